import PyProof.Rows.All
import Wide.All
import OpenK.AllK
import Wide.FinOn
import KE.KStateDown
import HandS.ForMost
import HandS.ForExc
import HandS.Codes
import HandS.More
import HandS.Strs
import HandS.IsInst
import HandS.Defaults
import HandS.Property
import HandS.ClsMeth
import HandS.Star
import HandS.Style
import HandS.DictComp
import HandS.Conv
import HandS.SetFor
import HandS.WideBits
import HandS.Wide
import HandS.Zip
import HandS.Walk
import HandS.Evl
import HandS.GenList
import HandS.HeadHook1
import HandS.Head2
import HandS.HeadEnd
import HandS.EndBits
import KE.SortData
import PySem.Challenge.RW_indexlogs_k21_whole_kinds_and_other_name
import HandS.HeadHook2
import KE.KDictZip
import PyProof.Finish
import Open.Gens
import PyProof.Logic
import Open.Head
import HandS.Ends
import HandS.Head3
/-! ## M1 -/
set_option maxHeartbeats 4000000
/-! Boards in plain Lean: counts by places, and the sum rule. -/
namespace K21
/-! ### sums and products of lists of ints -/
def prodI : List Int → Int
  | [] => 1
  | x :: r => x * prodI r
theorem prodI_append (a b : List Int) : prodI (a ++ b) = prodI a * prodI b := by
  induction a with
  | nil => simp [prodI]
  | cons x r ih => simp [prodI, ih, Int.mul_assoc]
theorem prodI_nonneg : ∀ l : List Int, (∀ x ∈ l, 0 ≤ x) → 0 ≤ prodI l
  | [], _ => by simp [prodI]
  | x :: r, h => Int.mul_nonneg (h x (by simp)) (prodI_nonneg r fun y hy => h y (by simp [hy]))
theorem prodI_pos : ∀ l : List Int, (∀ x ∈ l, 0 < x) → 0 < prodI l
  | [], _ => by simp [prodI]
  | x :: r, h => Int.mul_pos (h x (by simp)) (prodI_pos r fun y hy => h y (by simp [hy]))
theorem prodI_zero : ∀ l : List Int, (∃ x ∈ l, x = 0) → prodI l = 0
  | [], h => by obtain ⟨x, h, _⟩ := h; cases h
  | x :: r, h => by
    obtain ⟨y, hy, e⟩ := h
    rcases List.mem_cons.mp hy with z | z
    · rw [← z, e]; simp [prodI]
    · simp [prodI, prodI_zero r ⟨y, z, e⟩]
theorem foldl_mul (l : List Int) (a : Int) : l.foldl (fun x y => x * y) a = a * prodI l := by
  induction l generalizing a with
  | nil => simp [prodI]
  | cons x r ih => simp [prodI, ih, Int.mul_assoc]
def sumI (l : List Int) : Int := l.sum
section
variable {α : Type}
theorem sum_map_add (l : List α) (f g : α → Int) : (l.map fun x => f x + g x).sum = (l.map f).sum + (l.map g).sum := by
  induction l with
  | nil => simp
  | cons x r ih => simp [ih]; omega
theorem sum_map_mul (l : List α) (f : α → Int) (k : Int) : (l.map fun x => f x * k).sum = (l.map f).sum * k := by
  induction l with
  | nil => simp
  | cons x r ih => simp [ih, Int.add_mul]
theorem sum_map_const (l : List α) (k : Int) : (l.map fun _ => k).sum = l.length * k := by
  induction l with
  | nil => simp
  | cons x r ih => simp only [List.map_cons, List.sum_cons, ih, List.length_cons, Int.natCast_add, Int.add_mul]; omega
theorem sum_map_congr {l : List α} {f g : α → Int} (h : ∀ x ∈ l, f x = g x) : (l.map f).sum = (l.map g).sum := by
  rw [List.map_congr_left h]
theorem sum_filter_split (l : List α) (p : α → Bool) (f : α → Int) : (l.map f).sum = ((l.filter p).map f).sum + ((l.filter fun x => !p x).map f).sum := by
  induction l with
  | nil => simp
  | cons x r ih =>
    cases h : p x
    · simp [List.filter_cons, h, ih]; omega
    · simp [List.filter_cons, h, ih]; omega
theorem sum_filter_zero (l : List α) (p : α → Bool) (f : α → Int) (h : ∀ x ∈ l, p x = false → f x = 0) : (l.map f).sum = ((l.filter p).map f).sum := by
  rw [sum_filter_split l p f]
  have e : ((l.filter fun x => !p x).map f).sum = 0 := by
    have e1 : (l.filter fun x => !p x).map f = (l.filter fun x => !p x).map fun _ => (0 : Int) :=
      List.map_congr_left fun x hx => by
        obtain ⟨h1, h2⟩ := List.mem_filter.mp hx
        exact h x h1 (by simpa using h2)
    rw [e1, sum_map_const]; simp
  omega
end
/-! ### the product over the places -/
/-- at each place what fits, less the places before (j of them ahead) -/
def NP (c : Nat → Nat) : Nat → List Nat → Int
  | _, [] => 1
  | j, p :: ps => max 0 ((c p : Int) - j) * NP c (j + 1) ps
theorem NP_congr {c d : Nat → Nat} : ∀ (ps : List Nat) (j : Nat), (∀ p ∈ ps, c p = d p) → NP c j ps = NP d j ps
  | [], _, _ => rfl
  | p :: ps, j, h => by
    simp only [NP]
    rw [h p (by simp), NP_congr ps (j + 1) fun q hq => h q (by simp [hq])]
theorem NP_shift {c d : Nat → Nat} : ∀ (ps : List Nat) (j : Nat), (∀ p ∈ ps, c p = d p + 1) → NP c (j + 1) ps = NP d j ps
  | [], _, _ => rfl
  | p :: ps, j, h => by
    simp only [NP]
    rw [NP_shift ps (j + 1) fun q hq => h q (by simp [hq])]
    have e := h p (by simp)
    have e2 : ((c p : Int) - ((j + 1 : Nat) : Int)) = (d p : Int) - (j : Int) := by omega
    rw [e2]
theorem NP_snoc (c : Nat → Nat) (p : Nat) : ∀ (ps : List Nat) (j : Nat), NP c j (ps ++ [p]) = NP c j ps * max 0 ((c p : Int) - ((j + ps.length : Nat) : Int))
  | [], j => by simp [NP]
  | q :: ps, j => by
    simp only [NP, List.cons_append]
    rw [NP_snoc c p ps (j + 1)]
    have e : j + 1 + ps.length = j + (q :: ps).length := by simp; omega
    rw [e, Int.mul_assoc]
theorem NP_nonneg (c : Nat → Nat) : ∀ (ps : List Nat) (j : Nat), 0 ≤ NP c j ps
  | [], _ => by simp [NP]
  | p :: ps, j => Int.mul_nonneg (by omega) (NP_nonneg c ps (j + 1))
section
variable {α : Type}
/-- how many of W fit at p -/
def fits (fl : α → Int) (W : List α) (p : Nat) : Nat := W.countP fun n => decide (fl n ≤ (p : Int))
theorem fits_mono (fl : α → Int) (W : List α) {p q : Nat} (h : p ≤ q) : fits fl W p ≤ fits fl W q := by
  unfold fits
  refine List.countP_mono_left fun x _ hx => ?_
  simp only [decide_eq_true_eq] at hx ⊢
  omega
theorem fits_le (fl : α → Int) (W : List α) (p : Nat) : fits fl W p ≤ W.length := List.countP_le_length
/-- what fits when n is taken away -/
def less (fl : α → Int) (W : List α) (n : α) (p : Nat) : Nat := fits fl W p - (if fl n ≤ (p : Int) then 1 else 0)
theorem fits_pos {fl : α → Int} {W : List α} {n : α} {p : Nat} (hn : n ∈ W) (h : fl n ≤ (p : Int)) : 0 < fits fl W p := by
  unfold fits
  exact List.countP_pos_iff.mpr ⟨n, hn, by simpa using h⟩
/-- THE SUM RULE at the last place -/
theorem sum_last (fl : α → Int) (W : List α) : ∀ (ps : List Nat) (q : Nat), (∀ p ∈ ps, p < q) → ps.Pairwise (· < ·) →
    ((W.filter fun n => decide (fl n ≤ (q : Int))).map fun n => NP (less fl W n) 0 ps).sum = ((fits fl W q : Int) - ps.length) * NP (fits fl W) 0 ps := by
  intro ps
  generalize hk : ps.length = k
  induction k generalizing ps with
  | zero =>
    intro q _ _
    obtain rfl := List.length_eq_zero_iff.mp hk
    simp only [NP]
    rw [sum_map_const]
    unfold fits
    rw [List.countP_eq_length_filter]
    simp
  | succ k ih =>
    intro q hq hs
    obtain ⟨ps', p, rfl⟩ : ∃ l p, ps = l ++ [p] := by
      have hne : ps ≠ [] := by intro e; rw [e] at hk; simp at hk
      exact ⟨ps.dropLast, ps.getLast hne, (List.dropLast_concat_getLast hne).symm⟩
    have hk' : ps'.length = k := by simpa using hk
    have hpq : p < q := hq p (by simp)
    obtain ⟨hs1, _, hs3⟩ := List.pairwise_append.mp hs
    have hlt : ∀ x ∈ ps', x < p := fun x hx => hs3 x hx p (by simp)
    have IH := ih ps' hk' p hlt hs1
    rw [NP_snoc, hk', Nat.zero_add]
    -- split at p
    rw [sum_filter_split (W.filter fun n => decide (fl n ≤ (q : Int))) (fun n => decide (fl n ≤ (p : Int)))]
    have e1 : (W.filter fun n => decide (fl n ≤ (q : Int))).filter (fun n => decide (fl n ≤ (p : Int))) = W.filter fun n => decide (fl n ≤ (p : Int)) := by
      rw [List.filter_filter]
      refine List.filter_congr fun x _ => ?_
      by_cases h : fl x ≤ (p : Int)
      · have h2 : fl x ≤ (q : Int) := by omega
        simp [h, h2]
      · simp [h]
    rw [e1]
    have A : ((W.filter fun n => decide (fl n ≤ (p : Int))).map fun n => NP (less fl W n) 0 (ps' ++ [p])).sum
        = (((fits fl W p : Int) - k) * NP (fits fl W) 0 ps') * max 0 ((fits fl W p : Int) - 1 - k) := by
      rw [← IH, ← sum_map_mul]
      refine sum_map_congr fun n hn => ?_
      obtain ⟨hn1, hn2⟩ := List.mem_filter.mp hn
      have hn2 : fl n ≤ (p : Int) := by simpa using hn2
      rw [NP_snoc, hk', Nat.zero_add]
      have hp := fits_pos hn1 hn2
      have : (less fl W n p : Int) = (fits fl W p : Int) - 1 := by
        unfold less; rw [if_pos hn2]; omega
      rw [this]
    have B : (((W.filter fun n => decide (fl n ≤ (q : Int))).filter fun n => !decide (fl n ≤ (p : Int))).map fun n => NP (less fl W n) 0 (ps' ++ [p])).sum
        = ((fits fl W q : Int) - fits fl W p) * (NP (fits fl W) 0 ps' * max 0 ((fits fl W p : Int) - k)) := by
      have e2 : (((W.filter fun n => decide (fl n ≤ (q : Int))).filter fun n => !decide (fl n ≤ (p : Int))).map fun n => NP (less fl W n) 0 (ps' ++ [p])).sum
          = (((W.filter fun n => decide (fl n ≤ (q : Int))).filter fun n => !decide (fl n ≤ (p : Int))).map fun _ => NP (fits fl W) 0 ps' * max 0 ((fits fl W p : Int) - k)).sum := by
        refine sum_map_congr fun n hn => ?_
        obtain ⟨_, hn2⟩ := List.mem_filter.mp hn
        have hn2 : ¬ fl n ≤ (p : Int) := by simpa using hn2
        rw [NP_snoc, hk', Nat.zero_add]
        have e3 : less fl W n p = fits fl W p := by unfold less; rw [if_neg hn2]; rfl
        rw [e3, NP_congr ps' 0 fun x hx => ?_]
        unfold less
        have := hlt x hx
        rw [if_neg (by omega)]; rfl
      rw [e2, sum_map_const]
      have e4 : (((W.filter fun n => decide (fl n ≤ (q : Int))).filter fun n => !decide (fl n ≤ (p : Int))).length : Int) = (fits fl W q : Int) - fits fl W p := by
        have h1 : fits fl W q = (W.filter fun n => decide (fl n ≤ (q : Int))).length := by unfold fits; rw [List.countP_eq_length_filter]
        have h2 : fits fl W p = ((W.filter fun n => decide (fl n ≤ (q : Int))).filter (fun n => decide (fl n ≤ (p : Int)))).length := by
          unfold fits; rw [e1, List.countP_eq_length_filter]
        have h3 : ∀ (l : List α) (f : α → Bool), l.length = (l.filter f).length + (l.filter fun x => !f x).length := by
          intro l f
          induction l with
          | nil => simp
          | cons x r ih => cases h : f x <;> simp [List.filter_cons, h] <;> omega
        have h4 := h3 (W.filter fun n => decide (fl n ≤ (q : Int))) fun n => decide (fl n ≤ (p : Int))
        rw [h1, h2]; omega
      rw [e4]
    rw [A, B]
    generalize (fits fl W q : Int) = a
    generalize hb : (fits fl W p : Int) = b
    generalize NP (fits fl W) 0 ps' = N
    rcases Int.lt_or_le (k : Int) b with h | h
    · have m1 : max 0 (b - 1 - (k : Int)) = b - 1 - k := by omega
      have m2 : max 0 (b - (k : Int)) = b - k := by omega
      rw [m1, m2]
      have e5 : ((k + 1 : Nat) : Int) = (k : Int) + 1 := by omega
      rw [e5]
      have z1 : (b - ↑k) * N * (b - 1 - ↑k) = N * ((b - ↑k) * (b - 1 - ↑k)) := by
        rw [Int.mul_comm (b - ↑k) N, Int.mul_assoc]
      have z2 : (a - b) * (N * (b - ↑k)) = N * ((b - ↑k) * (a - b)) := by
        rw [Int.mul_comm (a - b), Int.mul_assoc]
      have z3 : (a - (↑k + 1)) * (N * (b - ↑k)) = N * ((b - ↑k) * (a - (↑k + 1))) := by
        rw [Int.mul_comm (a - (↑k + 1)), Int.mul_assoc]
      rw [z1, z2, z3, ← Int.mul_add, ← Int.mul_add]
      have : b - 1 - ↑k + (a - b) = a - (↑k + 1) := by omega
      rw [this]
    · have m1 : max 0 (b - 1 - (k : Int)) = 0 := by omega
      have m2 : max 0 (b - (k : Int)) = 0 := by omega
      rw [m1, m2]
      simp
end
end K21
/-! ## M2 -/
set_option maxHeartbeats 4000000
/-! Boards: counts, options, numbers, and what they are worth. -/
namespace K21
variable {α : Type} [DecidableEq α]
abbrev Gv (α : Type) := List (Option α)
structure Bd (α : Type) where
  ns : List α
  fl : α → Int
  tn : Bool
def pl (tn : Bool) (g : Gv α) : Gv α := if tn then g.reverse else g
omit [DecidableEq α] in
theorem pl_len (tn : Bool) (g : Gv α) : (pl tn g).length = g.length := by unfold pl; split <;> simp
omit [DecidableEq α] in
theorem pl_mem (tn : Bool) (g : Gv α) (x : Option α) : x ∈ pl tn g ↔ x ∈ g := by unfold pl; split <;> simp
/-- a position's place, a place's position -/
def tnd (tn : Bool) (n p : Nat) : Nat := if tn then n - 1 - p else p
omit [DecidableEq α] in
theorem pl_get (tn : Bool) (g : Gv α) {p : Nat} (h : p < g.length) : (pl tn g)[tnd tn g.length p]? = g[p]? := by
  unfold pl tnd
  cases tn
  · rfl
  · simp only [if_true]
    rw [List.getElem?_reverse (by omega)]
    congr 1; omega
omit [DecidableEq α] in
theorem pl_set (tn : Bool) (g : Gv α) {p : Nat} (x : Option α) (h : p < g.length) : pl tn (g.set p x) = (pl tn g).set (tnd tn g.length p) x := by
  unfold pl tnd
  cases tn
  · rfl
  · simp only [if_true]
    apply List.ext_getElem?
    intro i
    by_cases hi : i < g.length
    · rw [List.getElem?_reverse (by simpa using hi)]
      simp only [List.length_set, List.getElem?_set, List.length_reverse]
      by_cases e : p = g.length - 1 - i
      · rw [if_pos e, if_pos (by omega), if_pos (by omega), if_pos (by omega)]
      · rw [if_neg e, if_neg (by omega), List.getElem?_reverse hi]
    · rw [List.getElem?_eq_none (by simpa using hi), List.getElem?_eq_none (by simpa using hi)]
def free (G : Gv α) : List Nat := (List.range G.length).filter fun i => G[i]? == some none
theorem mem_free {G : Gv α} {i : Nat} : i ∈ free G ↔ G[i]? = some none := by
  unfold free
  rw [List.mem_filter, List.mem_range]
  constructor
  · intro h; exact by simpa using h.2
  · intro h
    exact ⟨(List.getElem?_eq_some_iff.mp h).1, by simp [h]⟩
theorem free_sorted (G : Gv α) : (free G).Pairwise (· < ·) := List.Pairwise.filter _ List.pairwise_lt_range
def wait (ns : List α) (g : Gv α) : List α := ns.filter fun n => !decide (some n ∈ g)
theorem mem_wait {ns : List α} {g : Gv α} {n : α} : n ∈ wait ns g ↔ n ∈ ns ∧ some n ∉ g := by
  unfold wait; rw [List.mem_filter]; simp
def farB (B : Bd α) : Bool := B.ns.any fun n => decide (B.fl n < 0)
def wrongB (fl : α → Int) (G : Gv α) : Bool := (List.range G.length).any fun i => match G[i]? with
  | some (some n) => decide ((i : Int) < fl n)
  | _ => false
omit [DecidableEq α] in
theorem wrongB_false {fl : α → Int} {G : Gv α} : wrongB fl G = false ↔ ∀ (i : Nat) n, G[i]? = some (some n) → fl n ≤ (i : Int) := by
  unfold wrongB
  rw [List.any_eq_false]
  constructor
  · intro h i n e
    have := h i (List.mem_range.mpr (List.getElem?_eq_some_iff.mp e).1)
    rw [e] at this
    simp at this; exact this
  · intro h i _
    cases e : G[i]? with
    | none => simp
    | some o =>
      cases o with
      | none => simp
      | some n => have := h i n e; simp; exact this
omit [DecidableEq α] in
theorem farB_false {B : Bd α} : farB B = false ↔ ∀ n ∈ B.ns, 0 ≤ B.fl n := by
  unfold farB
  rw [List.any_eq_false]
  constructor
  · intro h n hn; have := h n hn; simp at this; exact this
  · intro h n hn; have := h n hn; simp; exact this
def cnt (B : Bd α) (g : Gv α) : Int := if farB B || wrongB B.fl (pl B.tn g) then 0 else NP (fits B.fl (wait B.ns g)) 0 (free (pl B.tn g))
theorem cnt_nonneg (B : Bd α) (g : Gv α) : 0 ≤ cnt B g := by
  unfold cnt; split
  · exact Int.le_refl _
  · exact NP_nonneg _ _ _
theorem cnt_pos {B : Bd α} {g : Gv α} (h : 0 < cnt B g) : farB B = false ∧ wrongB B.fl (pl B.tn g) = false ∧ cnt B g = NP (fits B.fl (wait B.ns g)) 0 (free (pl B.tn g)) := by
  unfold cnt at h ⊢
  split at h
  · omega
  · rename_i h1
    rw [if_neg h1]
    simp only [Bool.or_eq_true, not_or, Bool.not_eq_true] at h1
    exact ⟨h1.1, h1.2, rfl⟩
/-- a given list of the board: its length, its items, each once -/
structure Gok (ns : List α) (g : Gv α) : Prop where
  len : g.length = ns.length
  mem : ∀ n, some n ∈ g → n ∈ ns
  one : ∀ (i j : Nat) (n : α), g[i]? = some (some n) → g[j]? = some (some n) → i = j
theorem Gok.set {ns : List α} {g : Gv α} {p : Nat} {n : α} (h : Gok ns g) (hn : n ∈ ns) (hg : some n ∉ g) : Gok ns (g.set p (some n)) := by
  refine ⟨by rw [List.length_set]; exact h.len, fun m hm => ?_, fun i j m hi hj => ?_⟩
  · rcases List.mem_or_eq_of_mem_set hm with z | z
    · exact h.mem m z
    · cases z; exact hn
  · rw [List.getElem?_set] at hi hj
    by_cases e1 : p = i
    · by_cases e2 : p = j
      · omega
      · rw [if_pos e1] at hi
        rw [if_neg e2] at hj
        split at hi
        · cases hi; exact absurd (List.mem_of_getElem? hj) hg
        · cases hi
    · by_cases e2 : p = j
      · rw [if_neg e1] at hi
        rw [if_pos e2] at hj
        split at hj
        · cases hj; exact absurd (List.mem_of_getElem? hi) hg
        · cases hj
      · rw [if_neg e1] at hi
        rw [if_neg e2] at hj
        exact h.one i j m hi hj
/-- the options of a position, with their counts -/
def optF (B : Bd α) (g : Gv α) (p : Nat) (n : α) : Option (α × Int) :=
  if some n ∈ g then none else if 0 < cnt B (g.set p (some n)) then some (n, cnt B (g.set p (some n))) else none
def opts (B : Bd α) (g : Gv α) (p : Nat) : List (α × Int) := B.ns.filterMap (optF B g p)
theorem mem_opts {B : Bd α} {g : Gv α} {p : Nat} {n : α} {c : Int} : (n, c) ∈ opts B g p ↔ n ∈ B.ns ∧ some n ∉ g ∧ c = cnt B (g.set p (some n)) ∧ 0 < c := by
  unfold opts
  rw [List.mem_filterMap]
  constructor
  · rintro ⟨m, hm, e⟩
    unfold optF at e
    split at e
    · cases e
    · rename_i h1
      split at e
      · rename_i h2
        injection e with e
        injection e with e1 e2
        subst e1 e2
        exact ⟨hm, h1, rfl, h2⟩
      · cases e
  · rintro ⟨h1, h2, h3, h4⟩
    refine ⟨n, h1, ?_⟩
    unfold optF
    rw [if_neg h2, if_pos (by rw [← h3]; exact h4), h3]
/-- the sum of the options' counts: over all that wait -/
theorem sum_opts (B : Bd α) (g : Gv α) (p : Nat) : ((opts B g p).map (·.2)).sum = ((wait B.ns g).map fun n => cnt B (g.set p (some n))).sum := by
  unfold opts wait
  induction B.ns with
  | nil => rfl
  | cons n r ih =>
    rw [List.filterMap_cons, List.filter_cons]
    unfold optF
    by_cases h1 : some n ∈ g
    · simp only [h1, if_true, decide_true, Bool.not_true, Bool.false_eq_true, if_false]
      exact ih
    · simp only [h1, if_false, decide_false, Bool.not_false, if_true]
      have h0 := cnt_nonneg B (g.set p (some n))
      by_cases h2 : 0 < cnt B (g.set p (some n))
      · simp only [h2, if_true, List.map_cons, List.sum_cons]
        rw [← ih]; rfl
      · simp only [h2, if_false, List.map_cons, List.sum_cons]
        have e : cnt B (g.set p (some n)) = 0 := by omega
        rw [e, Int.zero_add, ← ih]; rfl
theorem wait_set {ns : List α} {g : Gv α} {p : Nat} {n : α} (nd : ns.Nodup) (hp : g[p]? = some none) (hg : some n ∉ g) : wait ns (g.set p (some n)) = (wait ns g).erase n := by
  have hl := (List.getElem?_eq_some_iff.mp hp).1
  have key : ∀ m, m ≠ n → (some m ∈ g.set p (some n) ↔ some m ∈ g) := fun m hm => by
    constructor
    · intro h
      rcases List.mem_or_eq_of_mem_set h with z | z
      · exact z
      · cases z; exact absurd rfl hm
    · intro h
      obtain ⟨i, e⟩ := List.mem_iff_getElem?.mp h
      refine List.mem_iff_getElem?.mpr ⟨i, ?_⟩
      rw [List.getElem?_set_ne (fun z => ?_)]
      · exact e
      · subst z; rw [hp] at e; cases e
  have kn : some n ∈ g.set p (some n) := List.mem_iff_getElem?.mpr ⟨p, by rw [List.getElem?_set_self hl]⟩
  have ndw : (wait ns g).Nodup := List.Pairwise.filter _ nd
  rw [List.Nodup.erase_eq_filter ndw]
  unfold wait
  rw [List.filter_filter]
  refine List.filter_congr fun m _ => ?_
  by_cases e : m = n
  · subst e; simp [kn]
  · have := key m e
    by_cases h : some m ∈ g
    · simp [this, h]
    · simp [this, h, e]
theorem fits_erase {fl : α → Int} {W : List α} {n : α} (h : n ∈ W) (p : Nat) : fits fl (W.erase n) p = less fl W n p := by
  unfold less fits
  rw [(List.perm_cons_erase h).countP_eq, List.countP_cons]
  by_cases e : fl n ≤ (p : Int)
  · simp [e]
  · simp [e]
theorem free_set {G : Gv α} {q : Nat} {n : α} (hq : G[q]? = some none) : free (G.set q (some n)) = (free G).filter fun i => !decide (i = q) := by
  unfold free
  rw [List.length_set, List.filter_filter]
  refine List.filter_congr fun i hi => ?_
  have hi := List.mem_range.mp hi
  rw [List.getElem?_set]
  by_cases e : i = q
  · subst e; simp [hi]
  · rw [if_neg (fun z => e z.symm)]; simp [e]
theorem wrong_set {fl : α → Int} {G : Gv α} {q : Nat} {n : α} (hq : q < G.length) (h : wrongB fl G = false) : wrongB fl (G.set q (some n)) = decide ((q : Int) < fl n) := by
  by_cases e : (q : Int) < fl n
  · rw [decide_eq_true e]
    cases w : wrongB fl (G.set q (some n)) with
    | true => rfl
    | false =>
      have := wrongB_false.mp w q n (List.getElem?_set_self hq)
      omega
  · rw [decide_eq_false e]
    refine wrongB_false.mpr fun i m hm => ?_
    by_cases z : q = i
    · subst z
      rw [List.getElem?_set_self hq] at hm
      injection hm with hm
      injection hm with hm
      subst hm; omega
    · rw [List.getElem?_set_ne z] at hm
      exact wrongB_false.mp h i m hm
/-- the count with one more item given -/
theorem cnt_set {B : Bd α} {g : Gv α} {p : Nat} {n : α} (nd : B.ns.Nodup) (hpos : 0 < cnt B g) (hp : g[p]? = some none) (hn : n ∈ wait B.ns g) :
    cnt B (g.set p (some n)) = if B.fl n ≤ (tnd B.tn g.length p : Int) then NP (less B.fl (wait B.ns g) n) 0 ((free (pl B.tn g)).filter fun i => !decide (i = tnd B.tn g.length p)) else 0 := by
  obtain ⟨h1, h2, _⟩ := cnt_pos hpos
  have hl := (List.getElem?_eq_some_iff.mp hp).1
  have hq : (pl B.tn g)[tnd B.tn g.length p]? = some none := by rw [pl_get B.tn g hl]; exact hp
  have hql := (List.getElem?_eq_some_iff.mp hq).1
  obtain ⟨_, hng⟩ := mem_wait.mp hn
  unfold cnt
  rw [pl_set _ _ _ hl, h1, wrong_set hql h2, wait_set nd hp hng, free_set hq]
  by_cases e : B.fl n ≤ (tnd B.tn g.length p : Int)
  · rw [if_pos e, Bool.false_or, decide_eq_false (by omega), if_neg Bool.false_ne_true]
    exact NP_congr _ _ fun x _ => fits_erase hn x
  · rw [if_neg e, Bool.false_or, decide_eq_true (by omega), if_pos rfl]
/-- the first place without an item -/
def fn (g : Gv α) : Nat := g.idxOf none
theorem fn_at {g : Gv α} (h : none ∈ g) : g[fn g]? = some none := by
  unfold fn
  have hl := List.idxOf_lt_length_iff.mpr h
  rw [List.getElem?_eq_getElem hl, List.getElem_idxOf hl]
theorem fn_before {g : Gv α} {i : Nat} (h : i < fn g) : g[i]? ≠ some none := by
  intro e
  unfold fn at h
  have hl := (List.getElem?_eq_some_iff.mp e).1
  have := List.not_of_lt_findIdx (p := fun x => x == (none : Option α)) (xs := g) (i := i) h
  rw [List.getElem?_eq_getElem hl] at e
  injection e with e
  simp [e] at this
theorem filter_ne_head {q : Nat} {ps : List Nat} (h : (q :: ps).Pairwise (· < ·)) : (q :: ps).filter (fun i => !decide (i = q)) = ps := by
  rw [List.filter_cons]
  simp only [decide_true, Bool.not_true, Bool.false_eq_true, if_false]
  rw [List.filter_eq_self]
  intro x hx
  have := (List.pairwise_cons.mp h).1 x hx
  simp; omega
theorem filter_ne_last {q : Nat} {ps : List Nat} (h : (ps ++ [q]).Pairwise (· < ·)) : (ps ++ [q]).filter (fun i => !decide (i = q)) = ps := by
  rw [List.filter_append]
  obtain ⟨_, _, h3⟩ := List.pairwise_append.mp h
  have e1 : ps.filter (fun i => !decide (i = q)) = ps := by
    rw [List.filter_eq_self]
    intro x hx
    have := h3 x hx q (by simp)
    simp; omega
  rw [e1]; simp
theorem sorted_min {l : List Nat} {q : Nat} (hs : l.Pairwise (· < ·)) (hm : q ∈ l) (hmin : ∀ x ∈ l, q ≤ x) : ∃ ps, l = q :: ps := by
  cases l with
  | nil => cases hm
  | cons a r =>
    refine ⟨r, ?_⟩
    rcases List.mem_cons.mp hm with z | z
    · rw [z]
    · have h1 := (List.pairwise_cons.mp hs).1 q z
      have h2 := hmin a (by simp)
      omega
theorem sorted_max {l : List Nat} {q : Nat} (hs : l.Pairwise (· < ·)) (hm : q ∈ l) (hmax : ∀ x ∈ l, x ≤ q) : ∃ ps, l = ps ++ [q] := by
  have hne : l ≠ [] := by intro e; rw [e] at hm; cases hm
  have e := (List.dropLast_concat_getLast hne)
  refine ⟨l.dropLast, ?_⟩
  rw [← e] at hs hm
  obtain ⟨_, _, h3⟩ := List.pairwise_append.mp hs
  have h4 := hmax (l.getLast hne) (List.getLast_mem hne)
  rcases List.mem_append.mp hm with z | z
  · have := h3 q z (l.getLast hne) (by simp); omega
  · have z : q = l.getLast hne := by simpa using z
    rw [z]; exact e.symm
/-- THE SUM RULE at the first position without an item -/
theorem sum_rule {B : Bd α} {g : Gv α} (nd : B.ns.Nodup) (hg : none ∈ g) (hpos : 0 < cnt B g) : ((opts B g (fn g)).map (·.2)).sum = cnt B g := by
  have hp := fn_at hg
  have hl := (List.getElem?_eq_some_iff.mp hp).1
  obtain ⟨_, _, hc⟩ := cnt_pos hpos
  have hq : (pl B.tn g)[tnd B.tn g.length (fn g)]? = some none := by rw [pl_get B.tn g hl]; exact hp
  rw [sum_opts]
  rw [sum_map_congr fun n hn => cnt_set nd hpos hp hn]
  generalize hqe : tnd B.tn g.length (fn g) = q at hq
  have hs := free_sorted (pl B.tn g)
  have hqm := mem_free.mpr hq
  rw [sum_filter_zero _ (fun n => decide (B.fl n ≤ (q : Int))) _ fun n _ h => if_neg (by simpa using h)]
  have drop : ((wait B.ns g).filter fun n => decide (B.fl n ≤ (q : Int))).map (fun n => if B.fl n ≤ (q : Int) then NP (less B.fl (wait B.ns g) n) 0 ((free (pl B.tn g)).filter fun i => !decide (i = q)) else 0)
      = ((wait B.ns g).filter fun n => decide (B.fl n ≤ (q : Int))).map fun n => NP (less B.fl (wait B.ns g) n) 0 ((free (pl B.tn g)).filter fun i => !decide (i = q)) :=
    List.map_congr_left fun n hn => if_pos (by simpa using (List.mem_filter.mp hn).2)
  rw [drop]
  cases ht : B.tn with
  | false =>
    rw [ht] at hs hqm hc hq hqe
    have hqf : fn g = q := by simpa [tnd] using hqe
    obtain ⟨ps, e⟩ := sorted_min hs hqm fun x hx => by
      have hx := mem_free.mp hx
      rcases Nat.lt_or_ge x q with h | h
      · exact absurd hx (by rw [← hqf] at h; simpa [pl] using fn_before h)
      · exact h
    rw [e] at hs hc ⊢
    rw [filter_ne_head hs]
    have hlt := (List.pairwise_cons.mp hs).1
    have e2 : ((wait B.ns g).filter fun n => decide (B.fl n ≤ (q : Int))).map (fun n => NP (less B.fl (wait B.ns g) n) 0 ps)
        = ((wait B.ns g).filter fun n => decide (B.fl n ≤ (q : Int))).map fun _ => NP (fits B.fl (wait B.ns g)) 1 ps :=
      List.map_congr_left fun n hn => by
        obtain ⟨hn1, hn2⟩ := List.mem_filter.mp hn
        have hn2 : B.fl n ≤ (q : Int) := by simpa using hn2
        refine (NP_shift ps 0 fun x hx => ?_).symm
        have := hlt x hx
        have hx2 : B.fl n ≤ (x : Int) := by omega
        have := fits_pos hn1 hx2
        unfold less
        rw [if_pos hx2]; omega
    rw [e2, sum_map_const, hc]
    simp only [NP]
    have e3 : (((wait B.ns g).filter fun n => decide (B.fl n ≤ (q : Int))).length : Int) = fits B.fl (wait B.ns g) q := by
      unfold fits; rw [List.countP_eq_length_filter]
    rw [e3]
    have e4 : max 0 ((fits B.fl (wait B.ns g) q : Int) - ((0 : Nat) : Int)) = fits B.fl (wait B.ns g) q := by omega
    rw [e4]
  | true =>
    rw [ht] at hs hqm hc hq hqe
    have hqf : g.length - 1 - fn g = q := by simpa [tnd] using hqe
    obtain ⟨ps, e⟩ := sorted_max hs hqm fun x hx => by
      have hx := mem_free.mp hx
      have hxl : x < g.length := by
        have := (List.getElem?_eq_some_iff.mp hx).1
        rwa [pl_len] at this
      rcases Nat.lt_or_ge q x with h | h
      · have h3 : g[g.length - 1 - x]? = some none := by
          have : (pl true g)[x]? = g.reverse[x]? := rfl
          rw [this, List.getElem?_reverse hxl] at hx
          exact hx
        exact absurd h3 (fn_before (by omega))
      · exact h
    rw [e] at hs hc ⊢
    rw [filter_ne_last hs]
    obtain ⟨hs1, _, hs3⟩ := List.pairwise_append.mp hs
    rw [sum_last B.fl (wait B.ns g) ps q (fun p hp => hs3 p hp q (by simp)) hs1, hc, NP_snoc, Int.mul_comm, Nat.zero_add]
    congr 1
    rw [hc] at hpos
    rw [NP_snoc, Nat.zero_add] at hpos
    have h0 := NP_nonneg (fits B.fl (wait B.ns g)) ps 0
    rcases Int.lt_or_le 0 ((fits B.fl (wait B.ns g) q : Int) - (ps.length : Int)) with h | h
    · omega
    · have : max 0 ((fits B.fl (wait B.ns g) q : Int) - (ps.length : Int)) = 0 := by omega
      rw [this] at hpos
      simp at hpos
end K21
/-! ## M3 -/
set_option maxHeartbeats 4000000
/-! Boards: the list with a number, what a closed list is, the closed lists all. -/
namespace K21
variable {α : Type} [DecidableEq α]
/-- which option holds the number -/
def pickO : List (α × Int) → Int → Option (α × Int)
  | [], _ => none
  | (n, c) :: r, left => if left < c then some (n, left) else pickO r (left - c)
theorem pickO_some : ∀ (l : List (α × Int)) (left : Int), 0 ≤ left → left < (l.map (·.2)).sum → ∃ n c k, pickO l left = some (n, k) ∧ (n, c) ∈ l ∧ 0 ≤ k ∧ k < c
  | [], left, h0, h => by simp at h; omega
  | (n, c) :: r, left, h0, h => by
    unfold pickO
    by_cases e : left < c
    · rw [if_pos e]
      exact ⟨n, c, left, rfl, by simp, h0, e⟩
    · rw [if_neg e]
      simp only [List.map_cons, List.sum_cons] at h
      obtain ⟨m, d, k, h1, h2, h3, h4⟩ := pickO_some r (left - c) (by omega) (by omega)
      exact ⟨m, d, k, h1, List.mem_cons_of_mem _ h2, h3, h4⟩
def nthF : Nat → Bd α → Gv α → Int → Gv α
  | 0, _, g, _ => g
  | k + 1, B, g, left => if none ∈ g then match pickO (opts B g (fn g)) left with
      | some (n, l) => nthF k B (g.set (fn g) (some n)) l
      | none => g
    else g
/-- r holds what g gives -/
def Ext (g r : Gv α) : Prop := ∀ (i : Nat) (n : α), g[i]? = some (some n) → r[i]? = some (some n)
omit [DecidableEq α] in
theorem Ext.refl (g : Gv α) : Ext g g := fun _ _ h => h
omit [DecidableEq α] in
theorem Ext.trans {a b c : Gv α} (h : Ext a b) (k : Ext b c) : Ext a c := fun i n e => k i n (h i n e)
omit [DecidableEq α] in
theorem Ext.set {g : Gv α} {p : Nat} {n : α} (h : g[p]? = some none) : Ext g (g.set p (some n)) := fun i m e => by
  rw [List.getElem?_set_ne (fun z => ?_)]
  · exact e
  · subst z; rw [h] at e; cases e
theorem count_set {g : Gv α} {p : Nat} {n : α} (h : g[p]? = some none) : (g.set p (some n)).count none + 1 = g.count none := by
  obtain ⟨hl, e⟩ := List.getElem?_eq_some_iff.mp h
  rw [List.count_set hl, e]
  have : 0 < g.count none := List.count_pos_iff.mpr (by rw [← e]; exact List.getElem_mem hl)
  simp
  omega
/-- a closed list that agrees: r is full, its items are the board's, nothing stands wrong -/
structure Full (B : Bd α) (g r : Gv α) : Prop where
  ok : Gok B.ns r
  full : none ∉ r
  ext : Ext g r
  pos : 0 < cnt B r
theorem opt_step {B : Bd α} {g : Gv α} {n : α} {c : Int} (ok : Gok B.ns g) (hm : (n, c) ∈ opts B g (fn g)) : Gok B.ns (g.set (fn g) (some n)) ∧ c = cnt B (g.set (fn g) (some n)) ∧ 0 < c := by
  obtain ⟨h1, h2, h3, h4⟩ := mem_opts.mp hm
  exact ⟨ok.set h1 h2, h3, h4⟩
theorem nth_full {B : Bd α} (nd : B.ns.Nodup) : ∀ (k : Nat) (g : Gv α) (left : Int), g.count none ≤ k → Gok B.ns g → 0 ≤ left → left < cnt B g → Full B g (nthF k B g left)
  | 0, g, left, hk, ok, h0, h => by
    have hn : none ∉ g := fun z => by have := List.count_pos_iff.mpr z; omega
    exact ⟨ok, hn, Ext.refl g, by show 0 < cnt B g; omega⟩
  | k + 1, g, left, hk, ok, h0, h => by
    unfold nthF
    by_cases e : none ∈ g
    · rw [if_pos e]
      obtain ⟨n, c, l, h1, h2, h3, h4⟩ := pickO_some (opts B g (fn g)) left h0 (by rw [sum_rule nd e (by omega)]; exact h)
      rw [h1]
      obtain ⟨o1, o2, o3⟩ := opt_step ok h2
      have hc := count_set (n := n) (fn_at e)
      have r := nth_full nd k (g.set (fn g) (some n)) l (by omega) o1 h3 (by omega)
      exact ⟨r.ok, r.full, (Ext.set (fn_at e)).trans r.ext, r.pos⟩
    · rw [if_neg e]
      exact ⟨ok, e, Ext.refl g, by omega⟩
/-- one turn of the loop -/
theorem nth_turn {B : Bd α} (nd : B.ns.Nodup) {g : Gv α} {left : Int} (ok : Gok B.ns g) (e : none ∈ g) (h0 : 0 ≤ left) (h : left < cnt B g) :
    ∃ n c l, pickO (opts B g (fn g)) left = some (n, l) ∧ (n, c) ∈ opts B g (fn g) ∧ Gok B.ns (g.set (fn g) (some n)) ∧ 0 ≤ l ∧ l < cnt B (g.set (fn g) (some n)) ∧
      nthF (g.count none) B g left = nthF ((g.set (fn g) (some n)).count none) B (g.set (fn g) (some n)) l := by
  obtain ⟨n, c, l, h1, h2, h3, h4⟩ := pickO_some (opts B g (fn g)) left h0 (by rw [sum_rule nd e (by omega)]; exact h)
  obtain ⟨o1, o2, o3⟩ := opt_step ok h2
  have hc := count_set (n := n) (fn_at e)
  refine ⟨n, c, l, h1, h2, o1, h3, by omega, ?_⟩
  rw [← hc]
  show (if none ∈ g then _ else _) = _
  rw [if_pos e, h1]
/-! ### full lists -/
/-- the items of a full list -/
def itms (r : Gv α) : List α := r.filterMap id
omit [DecidableEq α] in
theorem itms_map : ∀ {r : Gv α}, none ∉ r → (itms r).map some = r
  | [], _ => rfl
  | none :: r, h => absurd (by simp) h
  | some n :: r, h => by
    have ih := itms_map (r := r) fun z => h (by simp [z])
    show some n :: (itms r).map some = _
    rw [ih]
theorem nodup_sub_len : ∀ {l m : List α}, l.Nodup → (∀ x ∈ l, x ∈ m) → l.length ≤ m.length
  | [], _, _, _ => by simp
  | x :: r, m, h, hs => by
    obtain ⟨h1, h2⟩ := List.nodup_cons.mp h
    have hx := hs x (by simp)
    have ih := nodup_sub_len (l := r) (m := m.erase x) h2 fun y hy => (List.mem_erase_of_ne (fun z => h1 (by rw [← z]; exact hy))).mpr (hs y (by simp [hy]))
    rw [List.length_erase_of_mem hx] at ih
    have := List.length_pos_of_mem hx
    simp; omega
theorem perm_of_nodup : ∀ {l m : List α}, l.Nodup → m.Nodup → (∀ x ∈ l, x ∈ m) → m.length ≤ l.length → l.Perm m
  | [], m, _, _, _, h => by
    have : m = [] := List.length_eq_zero_iff.mp (by simpa using h)
    rw [this]
  | x :: r, m, h, hm, hs, hl => by
    obtain ⟨h1, h2⟩ := List.nodup_cons.mp h
    have hx := hs x (by simp)
    have ih := perm_of_nodup (l := r) (m := m.erase x) h2 (hm.erase x) (fun y hy => (List.mem_erase_of_ne (fun z => h1 (by rw [← z]; exact hy))).mpr (hs y (by simp [hy]))) (by
      rw [List.length_erase_of_mem hx]
      simp at hl; omega)
    exact (List.Perm.cons x ih).trans (List.perm_cons_erase hx).symm
theorem itms_nodup {ns : List α} {g : Gv α} (ok : Gok ns g) : (itms g).Nodup := by
  have key : ∀ (g : Gv α), (∀ (i j : Nat) (n : α), g[i]? = some (some n) → g[j]? = some (some n) → i = j) → (itms g).Nodup := by
    intro g
    induction g with
    | nil => intro _; exact List.nodup_nil
    | cons o r ih =>
      intro h
      have hr : (itms r).Nodup := ih fun i j n a b => by
        have := h (i + 1) (j + 1) n (by simpa using a) (by simpa using b)
        omega
      cases o with
      | none => exact hr
      | some n =>
        show (n :: itms r).Nodup
        refine List.nodup_cons.mpr ⟨fun hm => ?_, hr⟩
        obtain ⟨o, ho, e⟩ := List.mem_filterMap.mp hm
        obtain ⟨j, hj⟩ := List.mem_iff_getElem?.mp ho
        have e : o = some n := e
        rw [e] at hj
        have := h 0 (j + 1) n rfl (by simpa using hj)
        omega
  exact key g ok.one
theorem itms_perm {B : Bd α} {r : Gv α} (nd : B.ns.Nodup) (ok : Gok B.ns r) (h : none ∉ r) : (itms r).Perm B.ns := by
  refine perm_of_nodup (itms_nodup ok) nd (fun x hx => ?_) ?_
  · obtain ⟨o, ho, e⟩ := List.mem_filterMap.mp hx
    have e : o = some x := e
    rw [e] at ho
    exact ok.mem x ho
  · have := congrArg List.length (itms_map h)
    rw [List.length_map] at this
    rw [this, ok.len]; exact Nat.le_refl _
/-! ### the closed lists, by what is not given -/
def fills : Nat → Bd α → Gv α → List (Gv α)
  | 0, _, g => [g]
  | k + 1, B, g => if none ∈ g then (opts B g (fn g)).flatMap fun o => fills k B (g.set (fn g) (some o.1)) else [g]
theorem NP_pos {c : Nat → Nat} : ∀ (ps : List Nat) (j : Nat), (∀ (i p : Nat), ps[i]? = some p → j + i < c p) → 0 < NP c j ps
  | [], _, _ => by simp [NP]
  | p :: ps, j, h => by
    simp only [NP]
    have h0 := h 0 p rfl
    refine Int.mul_pos (by omega) (NP_pos ps (j + 1) fun i q hq => ?_)
    have := h (i + 1) q (by simpa using hq)
    omega
/-- what a closed list is, without the count -/
structure Compl (B : Bd α) (g x : Gv α) : Prop where
  ok : Gok B.ns x
  full : none ∉ x
  ext : Ext g x
  far : farB B = false
  wrong : wrongB B.fl (pl B.tn x) = false
theorem full_some {x : Gv α} (h : none ∉ x) {i : Nat} (hi : i < x.length) : ∃ n, x[i]? = some (some n) := by
  cases e : x[i] with
  | none => exact absurd (by rw [← e]; exact List.getElem_mem hi) h
  | some n => exact ⟨n, by rw [List.getElem?_eq_getElem hi, e]⟩
theorem cnt_of_compl {B : Bd α} {g x : Gv α} (ok : Gok B.ns g) (c : Compl B g x) : 0 < cnt B g := by
  have hlen : g.length = x.length := by rw [ok.len, c.ok.len]
  have extG : ∀ (i : Nat) n, (pl B.tn g)[i]? = some (some n) → (pl B.tn x)[i]? = some (some n) := by
    intro i n h
    cases ht : B.tn with
    | false => rw [ht] at h; exact c.ext i n h
    | true =>
      rw [ht] at h
      have hi : i < g.length := by
        have := (List.getElem?_eq_some_iff.mp h).1
        rwa [pl_len] at this
      have h : g.reverse[i]? = some (some n) := h
      show x.reverse[i]? = some (some n)
      rw [List.getElem?_reverse hi] at h
      rw [List.getElem?_reverse (by omega), ← hlen]
      exact c.ext _ n h
  have hw : wrongB B.fl (pl B.tn g) = false := wrongB_false.mpr fun i n h => wrongB_false.mp c.wrong i n (extG i n h)
  unfold cnt
  rw [c.far, hw, Bool.false_or, if_neg Bool.false_ne_true]
  refine NP_pos _ 0 fun j p hj => ?_
  rw [Nat.zero_add]
  -- the items at the free places up to p
  have hs := free_sorted (pl B.tn g)
  obtain ⟨hjl, hjp⟩ := List.getElem?_eq_some_iff.mp hj
  have fullX : none ∉ pl B.tn x := fun z => c.full ((pl_mem _ _ _).mp z)
  have hfree : ∀ q ∈ free (pl B.tn g), q < (pl B.tn x).length := fun q hq => by
    have := (List.getElem?_eq_some_iff.mp (mem_free.mp hq)).1
    rw [pl_len] at this ⊢; omega
  let it : Nat → Option α := fun q => ((pl B.tn x)[q]?).join
  have itS : ∀ q ∈ free (pl B.tn g), ∃ n, (pl B.tn x)[q]? = some (some n) := fun q hq => full_some fullX (hfree q hq)
  have oneX : ∀ (a b : Nat) (n : α), (pl B.tn x)[a]? = some (some n) → (pl B.tn x)[b]? = some (some n) → a = b := by
    intro a b n ha hb
    cases ht : B.tn with
    | false => rw [ht] at ha hb; exact c.ok.one a b n ha hb
    | true =>
      rw [ht] at ha hb
      have la : a < x.length := by have := (List.getElem?_eq_some_iff.mp ha).1; rwa [pl_len] at this
      have lb : b < x.length := by have := (List.getElem?_eq_some_iff.mp hb).1; rwa [pl_len] at this
      have ha : x.reverse[a]? = some (some n) := ha
      have hb : x.reverse[b]? = some (some n) := hb
      rw [List.getElem?_reverse la] at ha
      rw [List.getElem?_reverse lb] at hb
      have := c.ok.one _ _ n ha hb
      omega
  have key : (((free (pl B.tn g)).take (j + 1)).filterMap it).length = j + 1 := by
    have : ∀ l : List Nat, (∀ q ∈ l, q ∈ free (pl B.tn g)) → (l.filterMap it).length = l.length := by
      intro l
      induction l with
      | nil => intro _; rfl
      | cons q r ih =>
        intro h
        obtain ⟨n, hn⟩ := itS q (h q (by simp))
        have e : it q = some n := by show ((pl B.tn x)[q]?).join = _; rw [hn]; rfl
        rw [List.filterMap_cons_some e, List.length_cons, ih fun z hz => h z (by simp [hz]), List.length_cons]
    rw [this _ fun q hq => List.mem_of_mem_take hq, List.length_take]
    omega
  have hmem : ∀ n ∈ ((free (pl B.tn g)).take (j + 1)).filterMap it, ∃ q ∈ (free (pl B.tn g)).take (j + 1), (pl B.tn x)[q]? = some (some n) := by
    intro n hn
    obtain ⟨q, hq, e⟩ := List.mem_filterMap.mp hn
    obtain ⟨m, hm⟩ := itS q (List.mem_of_mem_take hq)
    have e2 : it q = some m := by show ((pl B.tn x)[q]?).join = _; rw [hm]; rfl
    rw [e2] at e; cases e
    exact ⟨q, hq, hm⟩
  have hle : ∀ q ∈ (free (pl B.tn g)).take (j + 1), q ≤ p := by
    intro q hq
    obtain ⟨i, hi⟩ := List.mem_iff_getElem?.mp hq
    have hi' : i < j + 1 := by
      have := (List.getElem?_eq_some_iff.mp hi).1
      rw [List.length_take] at this; omega
    rw [List.getElem?_take_of_lt hi'] at hi
    obtain ⟨hil, hiq⟩ := List.getElem?_eq_some_iff.mp hi
    rcases Nat.lt_or_ge i j with h | h
    · have := List.pairwise_iff_getElem.mp hs i j hil hjl h
      omega
    · have : i = j := by omega
      subst this; omega
  have nd2 : (((free (pl B.tn g)).take (j + 1)).filterMap it).Nodup := by
    have : ∀ l : List Nat, l.Pairwise (· < ·) → (∀ q ∈ l, q ∈ free (pl B.tn g)) → (l.filterMap it).Nodup := by
      intro l
      induction l with
      | nil => intro _ _; exact List.nodup_nil
      | cons q r ih =>
        intro hp h
        obtain ⟨n, hn⟩ := itS q (h q (by simp))
        have e : it q = some n := by show ((pl B.tn x)[q]?).join = _; rw [hn]; rfl
        rw [List.filterMap_cons_some e]
        obtain ⟨p1, p2⟩ := List.pairwise_cons.mp hp
        refine List.nodup_cons.mpr ⟨fun hm => ?_, ih p2 fun z hz => h z (by simp [hz])⟩
        obtain ⟨z, hz, ez⟩ := List.mem_filterMap.mp hm
        obtain ⟨m, hm2⟩ := itS z (h z (by simp [hz]))
        have e2 : it z = some m := by show ((pl B.tn x)[z]?).join = _; rw [hm2]; rfl
        rw [e2] at ez; cases ez
        have := oneX q z _ hn hm2
        have := p1 z hz
        omega
    exact this _ (List.Pairwise.take hs) fun q hq => List.mem_of_mem_take hq
  have := nodup_sub_len nd2 (m := (wait B.ns g).filter fun n => decide (B.fl n ≤ (p : Int))) fun n hn => by
    obtain ⟨q, hq, hx⟩ := hmem n hn
    refine List.mem_filter.mpr ⟨mem_wait.mpr ⟨c.ok.mem n ((pl_mem _ _ _).mp (List.mem_of_getElem? hx)), fun z => ?_⟩, ?_⟩
    · obtain ⟨i, hi⟩ := List.mem_iff_getElem?.mp ((pl_mem B.tn g _).mpr z)
      have h1 := oneX _ _ _ (extG i n hi) hx
      have h2 := mem_free.mp (List.mem_of_mem_take hq)
      rw [h1, h2] at hi; cases hi
    · have h1 := wrongB_false.mp c.wrong q n hx
      have h2 := hle q hq
      simp; omega
  rw [key] at this
  unfold fits
  rw [List.countP_eq_length_filter]
  omega
theorem mem_fills {B : Bd α} : ∀ (k : Nat) (g x : Gv α), g.count none ≤ k → Gok B.ns g → 0 < cnt B g → (x ∈ fills k B g ↔ Compl B g x)
  | k, g, x, hk, ok, hpos => by
    have leaf : none ∉ g → (x ∈ [g] ↔ Compl B g x) := fun hn => by
      rw [List.mem_singleton]
      constructor
      · intro e; subst e
        obtain ⟨h1, h2, _⟩ := cnt_pos hpos
        exact ⟨ok, hn, Ext.refl _, h1, h2⟩
      · intro c
        apply List.ext_getElem?
        intro i
        by_cases hi : i < g.length
        · obtain ⟨n, e⟩ := full_some hn hi
          rw [e, c.ext i n e]
        · have hx : ¬ i < x.length := by rw [c.ok.len, ← ok.len]; exact hi
          rw [List.getElem?_eq_none (by omega), List.getElem?_eq_none (by omega)]
    cases k with
    | zero =>
      have hn : none ∉ g := fun z => by have := List.count_pos_iff.mpr z; omega
      exact leaf hn
    | succ k =>
      unfold fills
      by_cases e : none ∈ g
      · rw [if_pos e, List.mem_flatMap]
        have hp := fn_at e
        constructor
        · rintro ⟨⟨n, c⟩, ho, hx⟩
          obtain ⟨o1, o2, o3⟩ := opt_step ok ho
          have hc := count_set (n := n) hp
          have r := (mem_fills k _ x (by omega) o1 (by omega)).mp hx
          exact ⟨r.ok, r.full, (Ext.set hp).trans r.ext, r.far, r.wrong⟩
        · intro c
          have hl := (List.getElem?_eq_some_iff.mp hp).1
          obtain ⟨n, hn⟩ := full_some c.full (i := fn g) (by rw [c.ok.len, ← ok.len]; exact hl)
          have hng : some n ∉ g := fun z => by
            obtain ⟨i, hi⟩ := List.mem_iff_getElem?.mp z
            have := c.ok.one i (fn g) n (c.ext i n hi) hn
            rw [this, hp] at hi; cases hi
          have hns := c.ok.mem n (List.mem_of_getElem? hn)
          have ok2 := ok.set (p := fn g) hns hng
          have c2 : Compl B (g.set (fn g) (some n)) x := ⟨c.ok, c.full, fun i m hi => by
            by_cases z : fn g = i
            · subst z
              rw [List.getElem?_set_self hl] at hi
              cases hi; exact hn
            · rw [List.getElem?_set_ne z] at hi
              exact c.ext i m hi, c.far, c.wrong⟩
          have hpos2 := cnt_of_compl ok2 c2
          have hc := count_set (n := n) hp
          exact ⟨(n, cnt B (g.set (fn g) (some n))), mem_opts.mpr ⟨hns, hng, rfl, hpos2⟩, (mem_fills k _ x (by omega) ok2 hpos2).mpr c2⟩
      · rw [if_neg e]
        exact leaf e
/-! ### ascending -/
/-- the first difference is a lesser item -/
def LexLt (lt : α → α → Prop) (x y : Gv α) : Prop := ∃ (i : Nat) (a b : α), (∀ j, j < i → x[j]? = y[j]?) ∧ x[i]? = some (some a) ∧ y[i]? = some (some b) ∧ lt a b
theorem fills_ext {B : Bd α} : ∀ (k : Nat) (g x : Gv α), x ∈ fills k B g → Ext g x ∧ x.length = g.length
  | 0, g, x, h => by
    have : x = g := by simpa [fills] using h
    subst this; exact ⟨Ext.refl _, rfl⟩
  | k + 1, g, x, h => by
    unfold fills at h
    by_cases e : none ∈ g
    · rw [if_pos e, List.mem_flatMap] at h
      obtain ⟨o, _, h⟩ := h
      obtain ⟨h1, h2⟩ := fills_ext k _ x h
      exact ⟨(Ext.set (fn_at e)).trans h1, by rw [h2, List.length_set]⟩
    · rw [if_neg e] at h
      have : x = g := by simpa using h
      subst this; exact ⟨Ext.refl _, rfl⟩
theorem fills_sorted {B : Bd α} (lt : α → α → Prop) (hs : B.ns.Pairwise lt) : ∀ (k : Nat) (g : Gv α), (fills k B g).Pairwise (LexLt lt)
  | 0, g => by simp [fills]
  | k + 1, g => by
    unfold fills
    by_cases e : none ∈ g
    · rw [if_pos e]
      have hp := fn_at e
      have hl := (List.getElem?_eq_some_iff.mp hp).1
      have ho : (opts B g (fn g)).Pairwise fun a b => lt a.1 b.1 := by
        unfold opts
        refine List.Pairwise.filterMap (R := lt) _ (fun a b hab x hx y hy => ?_) hs
        have f1 : ∀ (n : α) (x : α × Int), optF B g (fn g) n = some x → x.1 = n := fun n x hx => by
          unfold optF at hx
          split at hx
          · cases hx
          · split at hx
            · injection hx with hx; rw [← hx]
            · cases hx
        rw [f1 a x hx, f1 b y hy]; exact hab
      refine List.pairwise_flatMap.mpr ⟨fun o _ => fills_sorted lt hs k _, ho.imp fun {a b} hab x hx y hy => ?_⟩
      obtain ⟨ex, _⟩ := fills_ext k _ x hx
      obtain ⟨ey, _⟩ := fills_ext k _ y hy
      refine ⟨fn g, a.1, b.1, fun j hj => ?_, ex _ _ (List.getElem?_set_self hl), ey _ _ (List.getElem?_set_self hl), hab⟩
      obtain ⟨n, hn⟩ : ∃ n, g[j]? = some (some n) := by
        have hj2 := fn_before hj
        have hjl : j < g.length := by omega
        cases q : g[j]? with
        | none => rw [List.getElem?_eq_getElem hjl] at q; cases q
        | some o =>
          cases o with
          | none => exact absurd q hj2
          | some n => exact ⟨n, rfl⟩
      rw [ex j n (by rw [List.getElem?_set_ne (by omega)]; exact hn), ey j n (by rw [List.getElem?_set_ne (by omega)]; exact hn)]
    · rw [if_neg e]; simp
end K21
/-! ## M4 -/
set_option maxHeartbeats 4000000
/-! Boards: numbers, certain entries, positions, shares; other items; the mirror. -/
namespace K21
variable {α β : Type} [DecidableEq α] [DecidableEq β]
def ltO (lt : α → α → Bool) (a : α) : Option α → Bool
  | some x => lt a x
  | none => false
/-- a list's number, position by position -/
def numF (B : Bd α) (lt : α → α → Bool) (xs : List α) : Gv α → Nat → Gv α → Int → Int
  | [], _, _, f => f
  | none :: r, i, g, f => numF B lt xs r (i + 1) (g.set i xs[i]?) (f + (((opts B g i).filter fun o => ltO lt o.1 xs[i]?).map (·.2)).sum)
  | some _ :: r, i, g, f => numF B lt xs r (i + 1) g f
def one1 : List (α × Int) → Option α
  | [o] => some o.1
  | _ => none
def certAt (B : Bd α) (g : Gv α) (i : Nat) : Option α := match g[i]? with
  | some (some n) => some n
  | _ => one1 (opts B g i)
def certF (B : Bd α) (g : Gv α) : Gv α := (List.range g.length).map (certAt B g)
def lw (B : Bd α) (g : Gv α) (n : α) (i : Nat) : Int := match g[i]? with
  | some (some m) => if m = n then cnt B g else 0
  | some none => if some n ∈ g then 0 else cnt B (g.set i (some n))
  | none => 0
def posF (B : Bd α) (g : Gv α) (n : α) : List Nat := (List.range g.length).filter fun i => decide (0 < lw B g n i)
def lowT (top bottom : Int) : Int × Int := (top / (Int.gcd bottom top : Int), bottom / (Int.gcd bottom top : Int))
theorem lw_nonneg (B : Bd α) (g : Gv α) (n : α) (i : Nat) : 0 ≤ lw B g n i := by
  have h := cnt_nonneg B g
  have h2 := cnt_nonneg B (g.set i (some n))
  unfold lw
  cases g[i]? with
  | none => exact Int.le_refl _
  | some o =>
    cases o with
    | none =>
      dsimp only
      split
      · exact Int.le_refl _
      · exact h2
    | some m =>
      dsimp only
      split
      · exact h
      · exact Int.le_refl _
/-! ### other items -/
structure Ren (f : α → β) (B : Bd α) (B' : Bd β) : Prop where
  ns : B'.ns = B.ns.map f
  tn : B'.tn = B.tn
  fl : ∀ n ∈ B.ns, B'.fl (f n) = B.fl n
  inj : ∀ a ∈ B.ns, ∀ b ∈ B.ns, f a = f b → a = b
def gm (f : α → β) (g : Gv α) : Gv β := g.map (Option.map f)
def Gin (B : Bd α) (g : Gv α) : Prop := ∀ n, some n ∈ g → n ∈ B.ns
omit [DecidableEq α] [DecidableEq β] in
theorem gm_get (f : α → β) (g : Gv α) (i : Nat) : (gm f g)[i]? = (g[i]?).map (Option.map f) := by unfold gm; rw [List.getElem?_map]
omit [DecidableEq α] [DecidableEq β] in
theorem gm_len (f : α → β) (g : Gv α) : (gm f g).length = g.length := by unfold gm; simp
omit [DecidableEq α] [DecidableEq β] in
theorem gm_set (f : α → β) (g : Gv α) (p : Nat) (n : α) : gm f (g.set p (some n)) = (gm f g).set p (some (f n)) := by unfold gm; rw [List.map_set]; rfl
omit [DecidableEq α] [DecidableEq β] in
theorem gm_pl (f : α → β) (t : Bool) (g : Gv α) : pl t (gm f g) = gm f (pl t g) := by unfold pl gm; split <;> simp
omit [DecidableEq α] [DecidableEq β] in
theorem gm_none (f : α → β) (g : Gv α) : none ∈ gm f g ↔ none ∈ g := by
  unfold gm
  rw [List.mem_map]
  constructor
  · rintro ⟨o, h, e⟩
    cases o with
    | none => exact h
    | some a => cases e
  · intro h; exact ⟨none, h, rfl⟩
section
variable {f : α → β} {B : Bd α} {B' : Bd β} {g : Gv α}
omit [DecidableEq α] [DecidableEq β] in
theorem ren_mem (r : Ren f B B') (h : Gin B g) {n : α} (hn : n ∈ B.ns) : some (f n) ∈ gm f g ↔ some n ∈ g := by
  unfold gm
  rw [List.mem_map]
  constructor
  · rintro ⟨o, ho, e⟩
    cases o with
    | none => cases e
    | some a =>
      injection e with e
      have := r.inj a (h a ho) n hn e
      rw [← this]; exact ho
  · intro ho; exact ⟨some n, ho, rfl⟩
omit [DecidableEq α] in
theorem any_eq {l : List α} {p q : α → Bool} (h : ∀ x ∈ l, p x = q x) : l.any p = l.any q := by
  induction l with
  | nil => rfl
  | cons x r ih => rw [List.any_cons, List.any_cons, h x (by simp), ih fun y hy => h y (by simp [hy])]
omit [DecidableEq α] [DecidableEq β] in
theorem fmap_eq {l : List α} {p q : α → Option β} (h : ∀ x ∈ l, p x = q x) : l.filterMap p = l.filterMap q := by
  induction l with
  | nil => rfl
  | cons x r ih => rw [List.filterMap_cons, List.filterMap_cons, h x (by simp), ih fun y hy => h y (by simp [hy])]
omit [DecidableEq α] [DecidableEq β] in
theorem ren_far (r : Ren f B B') : farB B' = farB B := by
  unfold farB
  rw [r.ns, List.any_map]
  exact any_eq fun n hn => by
    show decide (B'.fl (f n) < 0) = _
    rw [r.fl n hn]
omit [DecidableEq α] [DecidableEq β] in
theorem ren_wrong (r : Ren f B B') {G : Gv α} (h : Gin B G) : wrongB B'.fl (gm f G) = wrongB B.fl G := by
  unfold wrongB
  rw [gm_len]
  refine any_eq fun i _ => ?_
  rw [gm_get]
  cases e : G[i]? with
  | none => rfl
  | some o =>
    cases o with
    | none => rfl
    | some n =>
      show decide ((i : Int) < B'.fl (f n)) = decide ((i : Int) < B.fl n)
      rw [r.fl n (h n (List.mem_of_getElem? e))]
theorem ren_free (G : Gv α) : free (gm f G) = free G := by
  unfold free
  rw [gm_len]
  refine List.filter_congr fun i _ => ?_
  rw [gm_get]
  cases e : G[i]? with
  | none => rfl
  | some o => cases o <;> rfl
theorem ren_wait (r : Ren f B B') (h : Gin B g) : wait B'.ns (gm f g) = (wait B.ns g).map f := by
  unfold wait
  rw [r.ns, List.filter_map]
  congr 1
  refine List.filter_congr fun n hn => ?_
  have := ren_mem r h hn
  show (!decide (some (f n) ∈ gm f g)) = !decide (some n ∈ g)
  by_cases e : some n ∈ g
  · rw [decide_eq_true e, decide_eq_true (this.mpr e)]
  · rw [decide_eq_false e, decide_eq_false (fun z => e (this.mp z))]
omit [DecidableEq α] in
theorem Gin.pl {t : Bool} (h : Gin B g) : Gin B (K21.pl t g) := fun n hn => h n ((pl_mem t g _).mp hn)
theorem ren_cnt (r : Ren f B B') (h : Gin B g) : cnt B' (gm f g) = cnt B g := by
  unfold cnt
  rw [ren_far r, r.tn, gm_pl, ren_wrong r h.pl, ren_free, ren_wait r h]
  have e : ∀ p, fits B'.fl ((wait B.ns g).map f) p = fits B.fl (wait B.ns g) p := fun p => by
    unfold fits
    rw [List.countP_map]
    refine List.countP_congr fun n hn => ?_
    show decide (B'.fl (f n) ≤ (p : Int)) = true ↔ _
    rw [r.fl n (mem_wait.mp hn).1]
  rw [NP_congr _ _ fun p _ => e p]
omit [DecidableEq α] in
theorem Gin.set {p : Nat} {n : α} (h : Gin B g) (hn : n ∈ B.ns) : Gin B (g.set p (some n)) := fun m hm => by
  rcases List.mem_or_eq_of_mem_set hm with z | z
  · exact h m z
  · cases z; exact hn
theorem ren_opts (r : Ren f B B') (h : Gin B g) (p : Nat) : opts B' (gm f g) p = (opts B g p).map fun o => (f o.1, o.2) := by
  unfold opts
  rw [r.ns, List.filterMap_map, List.map_filterMap]
  refine fmap_eq fun n hn => ?_
  show optF B' (gm f g) p (f n) = _
  unfold optF
  rw [← gm_set, ren_cnt r (h.set hn)]
  by_cases e : some n ∈ g
  · rw [if_pos e, if_pos ((ren_mem r h hn).mpr e)]; rfl
  · rw [if_neg e, if_neg (fun z => e ((ren_mem r h hn).mp z))]
    split <;> rfl
theorem ren_fn : fn (gm f g) = fn g := by
  unfold fn List.idxOf gm
  rw [List.findIdx_map]
  congr 1
  funext o
  cases o <;> rfl
theorem ren_pick (l : List (α × Int)) (left : Int) : pickO (l.map fun o => (f o.1, o.2)) left = (pickO l left).map fun o => (f o.1, o.2) := by
  induction l generalizing left with
  | nil => rfl
  | cons o l ih =>
    obtain ⟨n, c⟩ := o
    show (if left < c then _ else _) = Option.map _ (if left < c then _ else _)
    split
    · rfl
    · exact ih _
omit [DecidableEq α] in
theorem pickO_mem {l : List (α × Int)} {left : Int} {n : α} {k : Int} (h : pickO l left = some (n, k)) : ∃ c, (n, c) ∈ l := by
  induction l generalizing left with
  | nil => cases h
  | cons o l ih =>
    obtain ⟨m, c⟩ := o
    unfold pickO at h
    split at h
    · injection h with h
      injection h with h1 h2
      exact ⟨c, by rw [h1]; simp⟩
    · obtain ⟨d, hd⟩ := ih h
      exact ⟨d, List.mem_cons_of_mem _ hd⟩
theorem ren_nth (r : Ren f B B') : ∀ (k : Nat) (g : Gv α) (left : Int), Gin B g → nthF k B' (gm f g) left = gm f (nthF k B g left)
  | 0, _, _, _ => rfl
  | k + 1, g, left, h => by
    unfold nthF
    by_cases e : none ∈ g
    · rw [if_pos e, if_pos ((gm_none f g).mpr e), ren_fn, ren_opts r h, ren_pick]
      cases q : pickO (opts B g (fn g)) left with
      | none => rfl
      | some o =>
        obtain ⟨n, l⟩ := o
        obtain ⟨c, hc⟩ := pickO_mem q
        have hn := (mem_opts.mp hc).1
        show nthF k B' ((gm f g).set (fn g) (some (f n))) l = _
        rw [← gm_set]
        exact ren_nth r k _ l (h.set hn)
    · rw [if_neg e, if_neg (fun z => e ((gm_none f g).mp z))]
theorem ren_num (r : Ren f B B') {lt : α → α → Bool} {lt' : β → β → Bool} {xs : List α} (hx : ∀ x ∈ xs, x ∈ B.ns) (hlt : ∀ a ∈ B.ns, ∀ b ∈ B.ns, lt' (f a) (f b) = lt a b) :
    ∀ (q : Gv α) (i : Nat) (g : Gv α) (k : Int), Gin B g → i + q.length ≤ xs.length → numF B' lt' (xs.map f) (gm f q) i (gm f g) k = numF B lt xs q i g k
  | [], _, _, _, _, _ => rfl
  | none :: q, i, g, k, h, hl => by
    have hi : i < xs.length := by simp at hl; omega
    have hxi : xs[i]? = some xs[i] := List.getElem?_eq_getElem hi
    have hm := hx xs[i] (List.getElem_mem hi)
    show numF B' lt' (xs.map f) (gm f q) (i + 1) ((gm f g).set i (xs.map f)[i]?) _ = numF B lt xs q (i + 1) (g.set i xs[i]?) _
    rw [List.getElem?_map, hxi]
    show numF B' lt' (xs.map f) (gm f q) (i + 1) ((gm f g).set i (some (f xs[i]))) _ = _
    rw [← gm_set, ren_opts r h, List.filter_map, List.map_map]
    have e : (opts B g i).filter ((fun o => ltO lt' o.1 (Option.map f (some xs[i]))) ∘ fun o => (f o.1, o.2)) = (opts B g i).filter fun o => ltO lt o.1 (some xs[i]) :=
      List.filter_congr fun o ho => by
        obtain ⟨n, c⟩ := o
        exact hlt n (mem_opts.mp ho).1 _ hm
    rw [e]
    exact ren_num r hx hlt q (i + 1) _ _ (h.set hm) (by simp at hl; omega)
  | some a :: q, i, g, k, h, hl => by
    show numF B' lt' (xs.map f) (gm f q) (i + 1) (gm f g) k = numF B lt xs q (i + 1) g k
    exact ren_num r hx hlt q (i + 1) g k h (by simp at hl; omega)
theorem ren_cert (r : Ren f B B') (h : Gin B g) : certF B' (gm f g) = gm f (certF B g) := by
  unfold certF
  rw [gm_len]
  unfold gm
  rw [List.map_map]
  refine List.map_congr_left fun i _ => ?_
  show certAt B' (gm f g) i = Option.map f (certAt B g i)
  unfold certAt
  rw [gm_get, ren_opts r h]
  have e1 : ∀ l : List (α × Int), one1 (l.map fun o => (f o.1, o.2)) = Option.map f (one1 l) := fun l => match l with
    | [] => rfl
    | [_] => rfl
    | _ :: _ :: _ => rfl
  cases e : g[i]? with
  | none => exact e1 _
  | some o =>
    cases o with
    | none => exact e1 _
    | some n => rfl
theorem ren_lw (r : Ren f B B') (h : Gin B g) {n : α} (hn : n ∈ B.ns) (i : Nat) : lw B' (gm f g) (f n) i = lw B g n i := by
  unfold lw
  rw [gm_get]
  cases e : g[i]? with
  | none => rfl
  | some o =>
    cases o with
    | none =>
      show (if some (f n) ∈ gm f g then _ else _) = if some n ∈ g then _ else _
      rw [← gm_set, ren_cnt r (h.set hn)]
      by_cases q : some n ∈ g
      · rw [if_pos q, if_pos ((ren_mem r h hn).mpr q)]
      · rw [if_neg q, if_neg (fun z => q ((ren_mem r h hn).mp z))]
    | some m =>
      show (if f m = f n then _ else _) = if m = n then _ else _
      rw [ren_cnt r h]
      by_cases q : m = n
      · rw [if_pos q, if_pos (by rw [q])]
      · rw [if_neg q, if_neg (fun z => q (r.inj m (h m (List.mem_of_getElem? e)) n hn z))]
theorem ren_pos (r : Ren f B B') (h : Gin B g) {n : α} (hn : n ∈ B.ns) : posF B' (gm f g) (f n) = posF B g n := by
  unfold posF
  rw [gm_len]
  exact List.filter_congr fun i _ => by rw [ren_lw r h hn]
end
/-! ### the mirror -/
omit [DecidableEq α] in
theorem rev_set (g : Gv α) {i : Nat} (x : Option α) (h : i < g.length) : g.reverse.set (g.length - 1 - i) x = (g.set i x).reverse := by
  have := pl_set true g (p := i) x h
  simp only [pl, tnd, if_true] at this
  exact this.symm
/-- the same board, its places counted from the end -/
def mir (B : Bd α) : Bd α := ⟨B.ns, B.fl, true⟩
section
variable {B : Bd α} {g : Gv α}
theorem mir_cnt (ht : B.tn = false) (g : Gv α) : cnt (mir B) g.reverse = cnt B g := by
  have e1 : wait B.ns g.reverse = wait B.ns g := by
    unfold wait
    exact List.filter_congr fun n _ => by simp
  unfold cnt
  show (if (farB (mir B) || wrongB B.fl (pl true g.reverse)) = true then 0 else NP (fits B.fl (wait B.ns g.reverse)) 0 (free (pl true g.reverse))) = _
  have e2 : pl true g.reverse = g := by simp [pl]
  have e3 : pl B.tn g = g := by rw [ht]; rfl
  rw [e1, e2, e3]; rfl
theorem mir_lw (ht : B.tn = false) {n : α} {i : Nat} (h : i < g.length) : lw (mir B) g.reverse n (g.length - 1 - i) = lw B g n i := by
  unfold lw
  rw [List.getElem?_reverse (by omega)]
  have e : g.length - 1 - (g.length - 1 - i) = i := by omega
  rw [e, rev_set g _ h, mir_cnt ht, mir_cnt ht]
  cases g[i]? with
  | none => rfl
  | some o => cases o <;> simp
theorem range_rev (n : Nat) : (List.range n).reverse = (List.range n).map fun i => n - 1 - i := by
  apply List.ext_getElem?
  intro i
  by_cases h : i < n
  · rw [List.getElem?_reverse (by simpa using h), List.length_range, List.getElem?_map, List.getElem?_range h, List.getElem?_range (show n - 1 - i < n by omega)]
    rfl
  · rw [List.getElem?_eq_none (by simp; omega), List.getElem?_eq_none (by simp; omega)]
theorem mir_pos (ht : B.tn = false) (n : α) : ((posF (mir B) g.reverse n).map fun i => g.length - 1 - i).reverse = posF B g n := by
  unfold posF
  rw [List.length_reverse, ← List.map_reverse, ← List.filter_reverse, range_rev, List.filter_map, List.map_map]
  have e : (List.range g.length).filter ((fun i => decide (0 < lw (mir B) g.reverse n i)) ∘ fun i => g.length - 1 - i) = (List.range g.length).filter fun i => decide (0 < lw B g n i) :=
    List.filter_congr fun i hi => by
      show decide (0 < lw (mir B) g.reverse n (g.length - 1 - i)) = _
      rw [mir_lw ht (List.mem_range.mp hi)]
  rw [e]
  have e2 : ((List.range g.length).filter fun i => decide (0 < lw B g n i)).map ((fun i => g.length - 1 - i) ∘ fun i => g.length - 1 - i) = ((List.range g.length).filter fun i => decide (0 < lw B g n i)).map id :=
    List.map_congr_left fun i hi => by
      have := List.mem_range.mp (List.mem_filter.mp hi).1
      show g.length - 1 - (g.length - 1 - i) = i
      omega
  rw [e2, List.map_id]
theorem mir_opts (ht : B.tn = false) {i : Nat} (h : i < g.length) : opts (mir B) g.reverse (g.length - 1 - i) = opts B g i := by
  unfold opts
  show B.ns.filterMap _ = _
  refine fmap_eq fun n _ => ?_
  unfold optF
  rw [rev_set g _ h, mir_cnt ht]
  simp
theorem mir_cert (ht : B.tn = false) : certF (mir B) g.reverse = (certF B g).reverse := by
  unfold certF
  rw [List.length_reverse, ← List.map_reverse, range_rev, List.map_map]
  refine List.map_congr_left fun i hi => ?_
  have hi := List.mem_range.mp hi
  show certAt (mir B) g.reverse i = certAt B g (g.length - 1 - i)
  unfold certAt
  rw [List.getElem?_reverse hi]
  have e := mir_opts (g := g) ht (i := g.length - 1 - i) (by omega)
  have e2 : g.length - 1 - (g.length - 1 - i) = i := by omega
  rw [e2] at e
  rw [e]
omit [DecidableEq α] in
theorem gok_rev {ns : List α} {x : Gv α} (h : Gok ns x) : Gok ns x.reverse := by
  refine ⟨by rw [List.length_reverse]; exact h.len, fun n hn => h.mem n (by simpa using hn), fun i j n hi hj => ?_⟩
  have li : i < x.length := by have := (List.getElem?_eq_some_iff.mp hi).1; simpa using this
  have lj : j < x.length := by have := (List.getElem?_eq_some_iff.mp hj).1; simpa using this
  rw [List.getElem?_reverse li] at hi
  rw [List.getElem?_reverse lj] at hj
  have := h.one _ _ n hi hj
  omega
omit [DecidableEq α] in
theorem mir_compl (ht : B.tn = false) (hl : g.length = B.ns.length) {x : Gv α} : Compl (mir B) g.reverse x.reverse ↔ Compl B g x := by
  have e1 : pl true x.reverse = x := by simp [pl]
  have e2 : pl B.tn x = x := by rw [ht]; rfl
  constructor
  · intro h
    have ok := gok_rev h.ok
    rw [List.reverse_reverse] at ok
    have w : wrongB B.fl (pl true x.reverse) = false := h.wrong
    rw [e1] at w
    refine ⟨ok, by simpa using h.full, fun i n hi => ?_, h.far, by rw [e2]; exact w⟩
    have li := (List.getElem?_eq_some_iff.mp hi).1
    have hx : x.length = g.length := by rw [ok.len]; exact hl.symm
    have e : g.length - 1 - (g.length - 1 - i) = i := by omega
    have q := h.ext (g.length - 1 - i) n (by rw [List.getElem?_reverse (by omega), e]; exact hi)
    rw [List.getElem?_reverse (by omega), hx, e] at q
    exact q
  · intro h
    have w := h.wrong
    rw [e2] at w
    refine ⟨gok_rev h.ok, by simpa using h.full, fun i n hi => ?_, h.far, by show wrongB B.fl (pl true x.reverse) = false; rw [e1]; exact w⟩
    have li : i < g.length := by have := (List.getElem?_eq_some_iff.mp hi).1; simpa using this
    rw [List.getElem?_reverse li] at hi
    have hx : x.length = g.length := by rw [h.ok.len]; exact hl.symm
    rw [List.getElem?_reverse (by omega), hx]
    exact h.ext _ n hi
/-- the closed lists of both boards -/
theorem mir_fills (ht : B.tn = false) (ok : Gok B.ns g) (hpos : 0 < cnt B g) {lt : α → α → Prop} (hlt : B.ns.Pairwise lt) (irr : ∀ x, ¬ LexLt lt x x) :
    ((fills (g.count none) (mir B) g.reverse).map List.reverse).Perm (fills (g.count none) B g) := by
  have okr : Gok (mir B).ns g.reverse := gok_rev ok
  have hposr : 0 < cnt (mir B) g.reverse := by rw [mir_cnt ht]; exact hpos
  have nd : ∀ (B : Bd α) (k : Nat) (g : Gv α), B.ns.Pairwise lt → (fills k B g).Nodup := fun B k g h => by
    refine List.Pairwise.imp ?_ (fills_sorted lt h k g)
    intro a b hab e
    rw [e] at hab
    exact irr b hab
  have inj : Function.Injective (List.reverse : Gv α → Gv α) := fun a b e => by have := congrArg List.reverse e; simpa using this
  have ndr : ((fills (g.count none) (mir B) g.reverse).map List.reverse).Nodup := by
    refine List.Pairwise.map _ (fun a b hab e => hab (inj e)) (nd (mir B) _ _ hlt)
  refine (List.perm_ext_iff_of_nodup ndr (nd B _ _ hlt)).mpr fun x => ?_
  rw [List.mem_map, mem_fills _ g x (Nat.le_refl _) ok hpos]
  have cr : g.reverse.count none ≤ g.count none := by simp
  constructor
  · rintro ⟨y, hy, rfl⟩
    have := (mem_fills (B := mir B) _ g.reverse y cr okr hposr).mp hy
    rw [← List.reverse_reverse y] at this
    exact (mir_compl ht ok.len).mp this
  · intro h
    exact ⟨x.reverse, (mem_fills (B := mir B) _ g.reverse _ cr okr hposr).mpr ((mir_compl ht ok.len).mpr h), by simp⟩
end
end K21
/-! ## W0 -/
set_option Elab.async false
set_option linter.all false
set_option maxRecDepth 100000
set_option maxHeartbeats 4000000
/-! The text by places, what of the text must stand, small rules. -/
namespace K21
open PySem PySem.Spec PyProof.Rows L2
abbrev RW := PySem.Challenge.rw_indexlogs_k21_whole_kinds_and_other_name
def top (i : Nat) : Stmt := PySem.Challenge.pw_indexlogs_k21_whole_kinds_and_other_name.main.body.getD i (.Pass ⟨0, 0, 0, 0⟩)
/-- the kinds of records -/
inductive Kd where
  | ins | rem | fro
  deriving DecidableEq
def Kd.sign : Kd → Str
  | .ins => "+"
  | .rem => "-"
  | .fro => "^"
def Kd.isF : Kd → Bool
  | .fro => true
  | _ => false
/-- what isinstance asks of an instance's class -/
structure Isi (K : PySem.W.Frag) (C : Addr) : Prop where
  ha : PySem.W.findIn K (.ref C) "__class__" = some (some (.builtin "object.__class__"))
  hm : PySem.W.mroIn K C (.type "object") = some true
/-- what of the text stands behind the top: the classes -/
structure Txt (K : PySem.W.Frag) (mg : Str → Option Value) (C : Kd → Addr) (CB RC : Addr) : Prop where
  cl : ∀ k, Cls K (C k)
  nIt : ∀ k, NoAttr K (C k) "held_item"
  nSl : ∀ k, NoAttr K (C k) "held_slot"
  sg : ∀ k, ∃ u, Con K (C k) "SIGN" (.str k.sign) u
  ii : ∀ k, Isi K (C k)
  hn : PySem.W.specialIn K (.builtin "object.__class__") "__get__" = some (some (.builtin "getset_descriptor.__get__"))
  htk : PySem.W.takesIn K (.builtin "object.__class__") = some true
  kR : ∀ k, PySem.W.kitOne K (.ref (C k)) (.ref RC) = some true
  kF : ∀ k, PySem.W.kitOne K (.ref (C k)) (.ref (C .fro)) = some k.isF
  clB : Cls K CB
  nB : ∀ x ∈ (["size", "is_turned", "floors", "given"] : List Str), NoAttr K CB x
  vRecord : ∃ u, mg "Record" = some u ∧ RelV (.ref RC) u
  vFronted : ∃ u, mg "Fronted" = some u ∧ RelV (.ref (C .fro)) u
  most : ∃ mc u, ClX.CRead K RC mc ∧ ClX.CVal K RC mc "MOST" (.int 60) u
  vMOST_LETTERS : ∃ u, mg "MOST_LETTERS" = some u ∧ RelV (.int 8) u
  vMOST_LOG : ∃ u, mg "MOST_LOG" = some u ∧ RelV (.int 40) u
  vLETTERS : ∃ u, mg "LETTERS" = some u ∧ RelV (.str "abcdefghijklmnopqrstuvwxyz") u
  vFAR : ∃ u, mg "FAR" = some u ∧ RelV (.str "far") u
  vWRONG : ∃ u, mg "WRONG" = some u ∧ RelV (.str "wrong") u
  vFEW : ∃ u, mg "FEW" = some u ∧ RelV (.str "few") u
  isinstance_ : mg "isinstance" = none
  len_ : mg "len" = none
  int_ : mg "int" = none
  bool_ : mg "bool" = none
  str_ : mg "str" = none
  list_ : mg "list" = none
  dict_ : mg "dict" = none
  tuple_ : mg "tuple" = none
  set_ : mg "set" = none
  all_ : mg "all" = none
  sum_ : mg "sum" = none
  abs_ : mg "abs" = none
  max_ : mg "max" = none
  sorted_ : mg "sorted" = none
  range_ : mg "range" = none
  enumerate_ : mg "enumerate" = none
  zip_ : mg "zip" = none
theorem hr_u {k : Nat} {A : Around} (hr : Room k A) : A.units + 64 < cLine := by have := hr.un; omega
/-! ### properties, calls by keyword -/
section
variable {P : Program} {w : World} {K : PySem.W.Frag} {mg : Str → Option Value} {base : Heap}
/-- a property of the class at C -/
structure Prp (P : Program) (w : World) (K : PySem.W.Frag) (mg : Str → Option Value) (base : Heap) (k : Nat) (C : Addr) (f : Str) (sp : Sp) : Prop where
  ex : ∃ (p g : Addr) (fd : FuncData) (ps : List Str), PropOf K C f p g ∧ FnOk P w K mg base CX0 k g fd ps sp ∧ Binds K fd ps []
/-- a def called with n values and the keyword seen -/
structure CaN (P : Program) (w : World) (K : PySem.W.Frag) (mg : Str → Option Value) (base : Heap) (k : Nat) (x : Str) (n : Nat) (sp : Sp) : Prop where
  ex : ∃ (f : Addr) (fd : FuncData) (ps : List Str), FnOk P w K mg base CX0 k f fd ps sp ∧ mg x = some (.ref f) ∧ PySem.W.keepIn K (.ref f) = true ∧ KBn K fd ps n ([PySem.Str.ofString "seen"] : List Str) (fun us ws => us ++ ws) (fun vs zs => vs ++ zs)
end
section
variable {X : Cx} {k j n : Nat} {C : Addr} {x f : Str} {sp : Sp} {p pos : Pos} {e : Expr} {es : List Expr} {kws : List Keyword} {ta : TE} {t tk : TA}
theorem pe_pr (c : Prp X.prog X.w X.K X.mg X.base k C f sp) (cl : Cls X.K C) (hr : Room j X.A) (hk : k + 1 ≤ j) (he : PE X e ta) (hab : attributeBase e f X.env (eval e X.env) = eval e X.env := by rfl) : PE X (.Attribute e f pos) (tProp C sp [] E0 ta) := by
  obtain ⟨p, g, fd, ps, hp, F, b⟩ := c.ex
  exact pe_prop he cl hp F (hr.mono hk) b .nil pass0 hab
theorem pe_cn (c : CaN X.prog X.w X.K X.mg X.base k x n sp) (hr : Room j X.A) (hk : k ≤ j) (hg : Gl X x) (ha : PA X (e :: es) t) (hkw : PK X kws tk)
    (hall : (backToKw pos (keywordEach kws X.env)).all (·.1.isSome) = true := by rfl) (hks : (backToKw pos (keywordEach kws X.env)).filterMap (·.1) = ([PySem.Str.ofString "seen"] : List Str) := by rfl)
    (hdb : (x == ("__debug__" : Str)) = false := by decide) (he : starEach (e :: es) X.env = (false, eval e X.env) :: starEach es X.env := by rfl)
    (hpl : ((backTo pos (starEach (e :: es) X.env)).any (·.1) || (backToKw pos (keywordEach kws X.env)).any (·.1.isNone)) = false := by rfl) :
    PE X (.Call (.Name x p) (e :: es) kws pos) (tCallN n 1 sp (fun vs zs => vs ++ zs) E0 t tk) := by
  obtain ⟨f, fd, ps, F, hm, kp, b⟩ := c.ex
  exact pe_callN F (hr.mono hk) hg hm kp b pass0 ha hkw hall hks hdb he hpl
theorem ip_mulX : PIp X .Mult (rI CMulX fun i j => .int (i * j)) := by
  intro pins s σ H a b v u Q I r1 r2 h
  obtain ⟨i, j, rfl, rfl, hc, q⟩ := h
  obtain ⟨t, rfl⟩ := r1
  obtain ⟨t', rfl⟩ := r2
  exact imul_int ⟨.int _, H, I.tok _, ⟨_, rfl⟩, q⟩ hc.ok
/-- lists of unlike lengths differ -/
def rNeLen (K : PySem.W.Frag) : R2 := fun x y H Q => ∃ a b xs ys, x = .ref a ∧ y = .ref b ∧ SqL K H a xs ∧ SqL K H b ys ∧ xs.length ≠ ys.length ∧ Q (.bl true) H
theorem op_neLen (hu : X.A.units + 64 < cLine) : OpR X (compareOp .NotEq) (rNeLen X.K) := by
  intro pins s σ H x y v u Q I rx ry h
  obtain ⟨a, b, xs, ys, rfl, rfl, ha, hb, hl, q⟩ := h
  cases rx
  cases ry
  obtain ⟨its, r, pl, hz⟩ := I.list ha
  obtain ⟨its2, r2, pl2, hz2⟩ := I.list hb
  have e1 := r.length
  have e2 := r2.length
  refine SeqAt.RcNeAt.lists_lengths pl.isList pl2.isList ?_ (by omega) _ _ _ _ ⟨.bl true, H, I, rfl, q⟩
  have : its.toArray.size ≠ its2.toArray.size := by simp; omega
  simpa using this
/-- a text so many times -/
def strRep (x : Str) (n : Int) : Str := ⟨(List.replicate n.toNat x.cps).foldl (· ++ ·) #[]⟩
theorem fold_size (a : Array Nat) : ∀ (m : Nat) (b : Array Nat), ((List.replicate m a).foldl (· ++ ·) b).size = b.size + m * a.size
  | 0, b => by simp
  | m + 1, b => by
    rw [List.replicate_succ, List.foldl_cons, fold_size a m, Array.size_append, Nat.succ_mul]
    omega
theorem fold_list (a : Array Nat) : ∀ (m : Nat) (b : Array Nat), ((List.replicate m a).foldl (· ++ ·) b).toList = b.toList ++ (List.replicate m a.toList).flatten
  | 0, b => by simp
  | m + 1, b => by
    rw [List.replicate_succ, List.foldl_cons, fold_list a m, List.replicate_succ, List.flatten_cons, Array.toList_append, List.append_assoc]
def rMulS : R2 := fun x y H Q => ∃ (z : Str) (n : Int), x = .str z ∧ y = .int n ∧ 0 ≤ n ∧ n ≤ 8 ∧ z.length = 1 ∧ Q (.str (if n < 1 then Str.empty else if n = 1 then z else strRep z n)) H
theorem op_mul_str : OpR X (binaryOp .Mult) rMulS := by
  intro pins s σ H x y v u Q I rx ry h
  obtain ⟨z, n, rfl, rfl, h0, h8, hz, q⟩ := h
  obtain ⟨t, rfl⟩ := rx
  obtain ⟨t', rfl⟩ := ry
  refine PySem.P.mul_str ?_ (fun h1 _ => ?_) (fun h1 _ => ?_) ?_
  · rw [decide_eq_false (by omega), decide_eq_false (by omega)]; rfl
  · rw [hz]
    have : (1 : Int) ≤ (2 ^ 63 - 1) / n := by
      refine (Int.le_ediv_iff_mul_le (by omega)).mpr ?_
      omega
    omega
  · rw [hz]
    have : (1 * n.toNat) ≤ 8 := by omega
    unfold PySem.Builtin.Str.tooLong
    have e : sizeLine = 16777216 := by decide
    simp only [e]
    simp
    omega
  · by_cases h1 : n < 1
    · rw [if_pos h1] at q ⊢
      exact ⟨by decide, ⟨.str _, H, I.tok _, ⟨_, rfl⟩, q⟩⟩
    · rw [if_neg h1] at q ⊢
      by_cases h2 : n = 1
      · subst h2
        rw [if_pos rfl] at q
        exact ⟨.str _, H, I, ⟨_, rfl⟩, q⟩
      · rw [if_neg h2] at q
        have e : (n == 1 || z.length == 0) = false := by rw [hz]; simp [h2]
        rw [e, if_neg Bool.false_ne_true]
        refine ⟨?_, ⟨.str _, H, I.tok _, ⟨_, rfl⟩, q⟩⟩
        show (strRep z n).cps.size ≤ sizeLine
        have e1 : (strRep z n).cps.size = n.toNat * z.cps.size := by
          unfold strRep
          rw [fold_size]; simp
        have e2 : z.cps.size = 1 := hz
        have e3 : sizeLine = 16777216 := by decide
        rw [e1, e2, e3]
        omega
end
/-! ### rules for the blocks of comprehensions: the written part by its own name -/
section
variable {X : Cx} {e a o : Expr} {es : List Expr} {f name : Str} {pos apos cpos p2 : Pos} {ta to : TE} {t : TA} {id T : String}
def rLenL (K : PySem.W.Frag) : List V → Hp → VK → Prop := fun xs H Q => ∃ p ys, xs = [.ref p] ∧ (SqL K H p ys ∨ SqT K H p ys) ∧ Q (.int ys.length) H
def rListOf (K : PySem.W.Frag) : List V → Hp → VK → Prop := fun xs H Q => ∃ p ys, xs = [.ref p] ∧ (SqL K H p ys ∨ SqT K H p ys) ∧ ∀ l, H l = none → Q (.ref l) (upd H l (.lst ys))
theorem call_isi_k (K : PySem.W.Frag) (h : X.K = K := by rfl) : CallR X (.builtin "isinstance") (rIsi K) := by subst h; exact call_isi
theorem call_isiT_k (K : PySem.W.Frag) (h : X.K = K := by rfl) : CallR X (.builtin "isinstance") (rIsiT K) := by subst h; exact call_isiT
theorem call_len_k (K : PySem.W.Frag) (h : X.K = K := by rfl) : CallR X (.builtin "len") (rLenL K) := by subst h; exact call_len_seq
theorem call_list_of_k (K : PySem.W.Frag) (h : X.K = K := by rfl) : CallR X (.type "list") (rListOf K) := by subst h; exact call_list_of
theorem cr_all_k (K : PySem.W.Frag) (hc : X.calm = true) (h : X.K = K := by rfl) : CallR X (.builtin "all") (rAll K) := by subst h; exact cr_all hc
theorem cr_sum_k (K : PySem.W.Frag) (hc : X.calm = true) (h : X.K = K := by rfl) : CallR X (.builtin "sum") (rSum K) := by subst h; exact cr_sum hc
theorem ix_list_k (K : PySem.W.Frag) (h : X.K = K := by rfl) : IxR X (rIxL K) := by subst h; exact ix_list
theorem ix_tup_k (K : PySem.W.Frag) (h : X.K = K := by rfl) : IxR X (rIxT K) := by subst h; exact ix_tup
theorem op_in_seq_k (K : PySem.W.Frag) (h : X.K = K := by rfl) : OpR X (compareOp .In) (rIn K false) := by subst h; exact op_in_seq
theorem op_notIn_seq_k (K : PySem.W.Frag) (h : X.K = K := by rfl) : OpR X (compareOp .NotIn) (rIn K true) := by subst h; exact op_notIn_seq
theorem op_eqD_k (K : PySem.W.Frag) (hu : X.A.units + 64 < cLine) (h : X.K = K := by rfl) : OpR X (compareOp .Eq) (rEqD K) := by subst h; exact op_eqD hu
theorem op_neD_k (K : PySem.W.Frag) (hu : X.A.units + 64 < cLine) (h : X.K = K := by rfl) : OpR X (compareOp .NotEq) (rNeD K) := by subst h; exact op_neD hu
theorem mt_index_k (K : PySem.W.Frag) (h : X.K = K := by rfl) : MtR X "list.index" (rIndex K) := by subst h; exact mt_index
theorem pe_fld_k (K : PySem.W.Frag) (he : PE X e ta) (hb : attributeBase e f X.env (eval e X.env) = eval e X.env) (h : X.K = K := by rfl) : PE X (.Attribute e f pos) (tFld K ta f) := by subst h; exact pe_fld he hb
theorem pe_con_k (K : PySem.W.Frag) (he : PE X e ta) (hb : attributeBase e f X.env (eval e X.env) = eval e X.env) (h : X.K = K := by rfl) : PE X (.Attribute e f pos) (tCon K ta f) := by subst h; exact pe_con he hb
theorem pi_list_k (K : PySem.W.Frag) {tg : Expr} (he : PE X e ta) (h : X.K = K := by rfl) : PI X tg e (iList K ta) := by subst h; exact pi_list he
theorem pe_revL_k (K : PySem.W.Frag) {k : Nat} {p1 p2 p3 : Pos} (he : PE X e ta) (h : X.K = K := by rfl) : PE X (.Subscript e (.Slice none none (some (.UnaryOp .USub (.Constant (.int 1) k p1) p2)) p3) pos) (tRevL K ta) := by subst h; exact pe_revL he
theorem pe_bm_k (K : PySem.W.Frag) {r : V → List V → Hp → VK → Prop} (pa : PlainAttrs T) (slot : Slot T name id) (hty : typeOf (.builtin id) = pure (.type "method_descriptor")) (hm : MtR X id r) (ho : PE X o to) (ha : PA X (e :: es) t)
    (hbase : attributeBase o name X.env (eval o X.env) = eval o X.env := by rfl)
    (hfew : ((backTo cpos (starEach (e :: es) X.env)).all (fun x => !x.1) && (backToKw cpos (keywordEach [] X.env)).all (fun x => x.1.isSome)
      && decide ((e :: es).length + ([] : List Keyword).length + (if ([] : List Keyword).isEmpty then 0 else 1) < 30)) = true := by rfl)
    (hline : (apos.endLine == cpos.line) = true := by rfl) (hs : starEach (e :: es) X.env = (false, eval e X.env) :: starEach es X.env := by rfl) (hpl : (backTo cpos (starEach es X.env)).any (·.1) = false := by rfl) (h : X.K = K := by rfl) :
    PE X (.Call (.Attribute o name apos) (e :: es) [] cpos) (tBM K T r to t) := by
  subst h
  exact pe_bm pa slot hty hm ho ha hbase hfew hline hs hpl
theorem pg_tup_k (K : PySem.W.Frag) {k n : Nat} {tg : TGs} (hc : X.calm = true) (h : PGs X es tg) (hn : (assignEach es X.env).length = n := by rfl) (hst : (assignEach es X.env).findIdx? (·.1) = none := by rfl) (hK : X.K = K := by rfl) : PG X (.Tuple es k pos) (gTup K n tg) := by
  subst hK; exact pg_tup hc h hn hst
theorem op_neLen_k (K : PySem.W.Frag) (hu : X.A.units + 64 < cLine) (h : X.K = K := by rfl) : OpR X (compareOp .NotEq) (rNeLen K) := by subst h; exact op_neLen hu
end
end K21
/-! ## W1 -/
set_option Elab.async false
set_option linter.all false
set_option maxRecDepth 100000
set_option maxHeartbeats 4000000
/-! Defs by their bodies; heaps; integers, items, records. -/
namespace K21
open PySem PySem.Spec PyProof.Rows L2
abbrev Ex := Evl.Ex
/-! ### defs, methods, makers, properties by their bodies -/
section
variable {P : Program} {w : World} {K : PySem.W.Frag} {mg : Str → Option Value} {base : Heap}
abbrev Body (P : Program) (w : World) (K : PySem.W.Frag) (mg : Str → Option Value) (base : Heap) (N : List Str) (qual : Str) (st : Stmt) (k : Nat) (sp : Sp) : Prop :=
  ∀ (f : Addr) (cdv : Value) (A : Around) (outer : List Env) (s : Shared) (H : Hp) (vs : List V) (Q : VK) (E : XK), Room k (A.deeper (envOfC qual (defScope st) s.heap.objs.size f cdv)) → sp vs H Q E →
    ∃ t, PSs (cxOf CX0 P w K mg base N qual (defScope st) f cdv A outer s H E).nox (defBody st) t ∧ t { nx := fun _ H' => Q .non H', rt := Q } (start N vs) H
structure DF (K : PySem.W.Frag) (mg : Str → Option Value) (x : Str) (st : Stmt) (ps : List Str) : Prop where
  ex : ∃ (f : Addr) (fd : FuncData), L2.Fun K x x st f fd ∧ mg x = some (.ref f) ∧ Binds K fd ps []
theorem DF.cal {x : Str} {st : Stmt} {N ps : List Str} {k : Nat} {sp : Sp} (F : DF K mg x st ps) (S : FnScope N ps (defScope st)) (len : ∀ vs H Q E, sp vs H Q E → vs.length = ps.length) (b : Body P w K mg base N x st k sp) : C8.Cal P w K mg base (k + 1) x sp [] := by
  obtain ⟨f, fd, h, hm, hb⟩ := F.ex
  exact ⟨f, fd, ps, [], h.ok S len fun cdv A outer s H vs Q E hr q => b f cdv A outer s H vs Q E hr q, hm, h.kp, hb, .nil⟩
structure DK (K : PySem.W.Frag) (mg : Str → Option Value) (x : Str) (st : Stmt) (ps : List Str) (n : Nat) : Prop where
  ex : ∃ (f : Addr) (fd : FuncData), L2.Fun K x x st f fd ∧ mg x = some (.ref f) ∧ KBn K fd ps n ([PySem.Str.ofString "seen"] : List Str) (fun us ws => us ++ ws) (fun vs zs => vs ++ zs)
theorem DK.can {x : Str} {st : Stmt} {N ps : List Str} {k n : Nat} {sp : Sp} (F : DK K mg x st ps n) (S : FnScope N ps (defScope st)) (len : ∀ vs H Q E, sp vs H Q E → vs.length = ps.length) (b : Body P w K mg base N x st k sp) : CaN P w K mg base (k + 1) x n sp := by
  obtain ⟨f, fd, h, hm, hb⟩ := F.ex
  exact ⟨f, fd, ps, h.ok S len fun cdv A outer s H vs Q E hr q => b f cdv A outer s H vs Q E hr q, hm, h.kp, hb⟩
structure DM (K : PySem.W.Frag) (C : Addr) (m qual : Str) (st : Stmt) (ps : List Str) : Prop where
  ex : ∃ (f : Addr) (fd : FuncData), L2.Fun K m qual st f fd ∧ Meth K C m f ∧ Binds K fd ps []
theorem DM.met {C : Addr} {m qual : Str} {st : Stmt} {N ps : List Str} {k : Nat} {sp : Sp} (F : DM K C m qual st ps) (cl : Cls K C) (S : FnScope N ps (defScope st)) (len : ∀ vs H Q E, sp vs H Q E → vs.length = ps.length) (b : Body P w K mg base N qual st k sp) : C8.Met P w K mg base (k + 1) C m sp [] := by
  obtain ⟨f, fd, h, hm, hb⟩ := F.ex
  exact ⟨f, fd, ps, [], cl, hm, h.ok S len fun cdv A outer s H vs Q E hr q => b f cdv A outer s H vs Q E hr q, hb, .nil⟩
structure DC (K : PySem.W.Frag) (mg : Str → Option Value) (x : Str) (C : Addr) (qual : Str) (st : Stmt) (ps : List Str) : Prop where
  ex : ∃ (f : Addr) (fd : FuncData), L2.Fun K "__init__" qual st f fd ∧ Mk K C f ∧ mg x = some (.ref C) ∧ Binds K fd ps []
theorem DC.mak {x qual : Str} {C : Addr} {st : Stmt} {N ps : List Str} {k : Nat} {sp : Sp} (F : DC K mg x C qual st ps) (S : FnScope N ps (defScope st)) (len : ∀ vs H Q E, sp vs H Q E → vs.length = ps.length) (b : Body P w K mg base N qual st k sp) : C8.Mak P w K mg base (k + 1) x C sp [] := by
  obtain ⟨f, fd, h, hm, hg, hb⟩ := F.ex
  exact ⟨f, fd, ps, [], hm, h.ok S len fun cdv A outer s H vs Q E hr q => b f cdv A outer s H vs Q E hr q, hg, hb, .nil⟩
structure DP (K : PySem.W.Frag) (C : Addr) (f qual : Str) (st : Stmt) : Prop where
  ex : ∃ (p g : Addr) (fd : FuncData), PropOf K C f p g ∧ L2.Fun K f qual st g fd ∧ Binds K fd ["self"] []
theorem DP.prp {C : Addr} {f qual : Str} {st : Stmt} {N : List Str} {k : Nat} {sp : Sp} (F : DP K C f qual st) (S : FnScope N ["self"] (defScope st)) (len : ∀ vs H Q E, sp vs H Q E → vs.length = 1) (b : Body P w K mg base N qual st k sp) : Prp P w K mg base (k + 1) C f sp := by
  obtain ⟨p, g, fd, hp, h, hb⟩ := F.ex
  exact ⟨p, g, fd, ["self"], hp, h.ok S len fun cdv A outer s H vs Q E hr q => b g cdv A outer s H vs Q E hr q, hb⟩
end
/-! ### what stands in a heap -/
theorem abs_new {H : Hp} {p : Addr} {o : HO} (hp : H p = none) : Ex H (upd H p o) ∧ (upd H p o) p = some o := ⟨Evl.Ex.new hp, upd_same⟩
def recF (n : Str) (i : Int) : List (Str × V) := [("held_item", .str n), ("held_slot", .int i)]
theorem recF_put (n : Str) (i : Int) : putF "held_slot" (.int i) (putF "held_item" (.str n) []) = recF n i := by
  show (if ("held_item" : Str) = "held_slot" then _ else _) = _
  rw [if_neg (by decide +kernel)]; rfl
theorem recF_item (n : Str) (i : Int) : (recF n i).lookup ("held_item" : Str) = some (V.str n) := rfl
theorem recF_slot (n : Str) (i : Int) : (recF n i).lookup ("held_slot" : Str) = some (V.int i) := by
  rw [← recF_put, lookup_putF, if_pos rfl]
theorem recF_no (n : Str) (i : Int) {m : Str} (h1 : ¬ m = "held_slot") (h2 : ¬ m = "held_item") : (recF n i).lookup m = none := by
  rw [← recF_put, lookup_putF, if_neg h1, lookup_putF, if_neg h2]; rfl
def RecAt (C : Kd → Addr) (H : Hp) (r : Addr) (k : Kd) (n : Str) (i : Int) : Prop := ∃ dx, H r = some (.ins (C k) dx (recF n i))
theorem RecAt.ex {C : Kd → Addr} {H H' : Hp} {r : Addr} {k : Kd} {n : Str} {i : Int} (h : RecAt C H r k n i) (e : Ex H H') : RecAt C H' r k n i := by
  obtain ⟨dx, h⟩ := h
  exact ⟨dx, e _ _ h⟩
/-! ### comprehensions -/
def del (H : Hp) (D : Addr) : Hp := fun b => if b = D then none else H b
theorem del_ne {H : Hp} {D b : Addr} (h : b ≠ D) : del H D b = H b := if_neg h
theorem del_ex {H H' : Hp} {D : Addr} (e : Ex H H') : Ex (del H D) (del H' D) := fun b o q => by
  by_cases h : b = D
  · rw [h] at q; unfold del at q; rw [if_pos rfl] at q; cases q
  · rw [del_ne h] at q ⊢; exact e b o q
theorem del_upd {H : Hp} {D : Addr} {o : HO} : del (upd H D o) D = del H D := by
  funext b
  by_cases h : b = D
  · unfold del; rw [if_pos h, if_pos h]
  · rw [del_ne h, del_ne h, upd_ne h]
theorem ex_del {H H' : Hp} {D : Addr} (hD : H D = none) (e : Ex H H') : Ex H (del H' D) := fun b o q => by
  rw [del_ne (ne_of_none q hD)]; exact e b o q
theorem del_sub {H : Hp} {D : Addr} : Ex (del H D) H := fun b o q => by
  by_cases h : b = D
  · rw [h] at q; unfold del at q; rw [if_pos rfl] at q; cases q
  · rw [del_ne h] at q; exact q
section
variable {J : It} {n : Nat} {G : Hp → Prop} {Y : Nat → Hp → V → Hp → Prop} {g : TG} {tt : TT} {te : TE} {vs : List Nat} {σ : L2.St} {H0 : Hp} {D : Addr} {Qd : Hp → Prop}
/-- a comprehension whose items are values that stand for themselves: f i the i-th, or none -/
theorem lcP (w : Walk J n G Y) (f : Nat → Option V) (hD : H0 D = none) (hn : n ≤ 100000) (hG : ∀ H, Ex H0 H → G H)
    (hs : ∀ i x H H' (Qy : V → Hp → Prop) (Qn : Hp → Prop), i < n → Ex H0 H → Y i H x H' → (∀ y H4, Ex H H4 → f i = some y → Qy y H4) → (∀ H3, Ex H H3 → f i = none → Qn H3) →
      g x (wipe σ vs) H' fun σ2 H2 => wipe σ2 vs = wipe σ vs ∧ tt σ2 H2 fun b H3 => if b = true then te σ2 H3 Qy else Qn H3)
    (hd : ∀ H', Ex H0 H' → H' D = some (.lst ((List.range n).filterMap f)) → Qd H') :
    ∃ W : Nat → Nat → Hp → Prop, (∃ m, W 0 m (upd H0 D (.lst []))) ∧ ∀ i m H, W i m H →
      (J.stop i H ∧ Qd H) ∨ (J.go i H ∧ ∃ Nx : Hp → Prop, (∀ H', Nx H' → ∃ m', m' < m ∧ W (i + 1) m' H') ∧ ∀ x H', J.yld i H x H' → g x (wipe σ vs) H' fun σ2 H2 => wipe σ2 vs = wipe σ vs ∧ tt σ2 H2 fun b H3 =>
        if b = true then te σ2 H3 fun y H4 => ∃ acc, H4 D = some (.lst acc) ∧ acc.length < sizeLine ∧ Nx (upd H4 D (.lst (acc ++ [y]))) else Nx H3) := by
  have len : ∀ i, ((List.range i).filterMap f).length ≤ i := fun i => by
    have := List.length_filterMap_le f (List.range i)
    rw [List.length_range] at this; exact this
  refine lc_it w (fun i H => Ex H0 H ∧ H D = some (.lst ((List.range i).filterMap f))) ⟨Evl.Ex.new hD, upd_same⟩ (fun i H _ p => hG H p.1) (fun i x H H' hi p y => ?_) fun H p => hd H p.1 p.2
  refine hs i x H H' _ _ hi p.1 y (fun v H4 e4 hf => ?_) fun H3 e3 hf => ?_
  · refine ⟨_, e4 _ _ p.2, Nat.lt_of_le_of_lt (len i) (Nat.lt_of_lt_of_le hi (Nat.le_trans hn (by decide))), Evl.Ex.mut (p.1.trans e4) hD, ?_⟩
    rw [List.range_succ, List.filterMap_append]
    simp [hf]
    exact upd_same
  · refine ⟨p.1.trans e3, ?_⟩
    rw [List.range_succ, List.filterMap_append]
    simp [hf]
    exact e3 _ _ p.2
/-- .. whose items may be new objects: A of what is made, seen without the list itself -/
theorem lcA (w : Walk J n G Y) (A : Nat → List V → Hp → Prop) (hD : H0 D = none) (hn : n ≤ 100000) (hG : ∀ H, Ex H0 H → G H) (h0 : A 0 [] H0)
    (hl : ∀ i acc H, A i acc H → acc.length ≤ i) (hm : ∀ i acc H H', A i acc H → Ex H H' → A i acc H')
    (hs : ∀ i x H H' acc (Qy : V → Hp → Prop) (Qn : Hp → Prop), i < n → Ex H0 H → H D = some (.lst acc) → A i acc (del H D) → Y i H x H' → (∀ y H4, Ex H H4 → A (i + 1) (acc ++ [y]) (del H4 D) → Qy y H4) → (∀ H3, Ex H H3 → A (i + 1) acc (del H3 D) → Qn H3) →
      g x (wipe σ vs) H' fun σ2 H2 => wipe σ2 vs = wipe σ vs ∧ tt σ2 H2 fun b H3 => if b = true then te σ2 H3 Qy else Qn H3)
    (hd : ∀ H' acc, Ex H0 H' → H' D = some (.lst acc) → A n acc (del H' D) → Qd H') :
    ∃ W : Nat → Nat → Hp → Prop, (∃ m, W 0 m (upd H0 D (.lst []))) ∧ ∀ i m H, W i m H →
      (J.stop i H ∧ Qd H) ∨ (J.go i H ∧ ∃ Nx : Hp → Prop, (∀ H', Nx H' → ∃ m', m' < m ∧ W (i + 1) m' H') ∧ ∀ x H', J.yld i H x H' → g x (wipe σ vs) H' fun σ2 H2 => wipe σ2 vs = wipe σ vs ∧ tt σ2 H2 fun b H3 =>
        if b = true then te σ2 H3 fun y H4 => ∃ acc, H4 D = some (.lst acc) ∧ acc.length < sizeLine ∧ Nx (upd H4 D (.lst (acc ++ [y]))) else Nx H3) := by
  refine lc_it w (fun i H => Ex H0 H ∧ ∃ acc, H D = some (.lst acc) ∧ A i acc (del H D)) ⟨Evl.Ex.new hD, [], upd_same, ?_⟩ (fun i H _ p => hG H p.1) (fun i x H H' hi p y => ?_) fun H p => ?_
  · rw [del_upd]
    exact hm _ _ _ _ h0 (ex_del hD (Evl.Ex.refl _))
  · obtain ⟨p1, acc, p2, p3⟩ := p
    refine hs i x H H' acc _ _ hi p1 p2 p3 y (fun v H4 e4 ha => ?_) fun H3 e3 ha => ?_
    · refine ⟨acc, e4 _ _ p2, Nat.lt_of_le_of_lt (hl _ _ _ p3) (Nat.lt_of_lt_of_le hi (Nat.le_trans hn (by decide))), Evl.Ex.mut (p1.trans e4) hD, acc ++ [v], upd_same, ?_⟩
      rw [del_upd]; exact ha
    · exact ⟨p1.trans e3, acc, e3 _ _ p2, ha⟩
  · obtain ⟨p1, acc, p2, p3⟩ := p
    exact hd H acc p1 p2 p3
end
theorem q_bl {Q : V → Hp → Prop} {H : Hp} {b c : Bool} (e : b = c) (q : Q (.bl c) H) : Q (.bl b) H := by
  rw [e]; exact q
theorem q_v {Q : V → Hp → Prop} {H : Hp} {b c : V} (e : b = c) (q : Q c H) : Q b H := by
  rw [e]; exact q
theorem bl_t {b : Bool} (e : b = true) : V.bl b = V.bl true := by rw [e]
theorem bl_f {b : Bool} (e : b = false) : V.bl b = V.bl false := by rw [e]
theorem fm_map {β : Type} (n : Nat) (f : Nat → β) (g : β → V) : (List.range n).filterMap (fun i => some (g (f i))) = ((List.range n).map f).map g := by
  rw [List.map_map, List.filterMap_eq_map']
  rfl
theorem all_true (n : Nat) : ((List.range n).map fun _ => true).all id = true := by
  rw [List.all_eq_true]
  intro x hx
  obtain ⟨_, _, e⟩ := List.mem_map.mp hx
  rw [← e]; rfl
/-- all of a list of truths -/
theorem rd_all {K : PySem.W.Frag} {H : Hp} {D : Addr} {n : Nat} {Q : VK} (h : H D = some (.lst ((List.range n).filterMap fun _ => some (.bl true)))) (q : Q (.bl true) H) : rAll K [.ref D] H Q := by
  refine ⟨D, (List.range n).map fun _ => true, rfl, Evl.sq_of ?_, ?_⟩
  · rw [h, ← fm_map n (fun _ => true) V.bl]
  · exact q_bl (all_true n) q
/-! ### integers, items -/
def spIsInteger : Sp := fun vs H Q _ => ∃ i a b : Int, vs = [.int i, .int a, .int b] ∧ a ≤ i ∧ i ≤ b ∧ Q (.bl true) H
abbrev letters : Str := "abcdefghijklmnopqrstuvwxyz"
/-- an item: one to eight small letters -/
def okItem (s : Str) : Prop := 1 ≤ s.length ∧ s.length ≤ 8 ∧ ∀ c ∈ s.cps.toList, c ∈ letters.cps.toList
def spIsItem : Sp := fun vs H Q _ => ∃ s, vs = [.str s] ∧ okItem s ∧ ∀ H', Ex H H' → Q (.bl true) H'
def spInit (C : Addr) : Sp := fun vs H Q _ => ∃ (p dx : Addr) (n : Str) (i : Int), vs = [.ref p, .str n, .int i] ∧ okItem n ∧ 0 ≤ i ∧ i ≤ 60 ∧ H p = some (.ins C dx []) ∧
  ∀ H', (∀ b o, b ≠ p → H b = some o → H' b = some o) → H' p = some (.ins C dx (recF n i)) → Q .non H'
end K21
/-! ## H0 -/
set_option Elab.async false
set_option linter.all false
set_option maxRecDepth 100000
set_option maxHeartbeats 4000000
/-! What the top leaves, as facts that compute. -/
namespace K21
open PySem PySem.Spec PyProof.Rows L2 He
def kN : Kd → Str
  | .ins => "Inserted"
  | .rem => "Removed"
  | .fro => "Fronted"
def conB (K : PySem.W.Frag) (C : Addr) (f : Str) (v : V) : Bool := match PySem.W.findIn K (.ref C) f with
  | some (some u) => relB v u && (eqO (PySem.W.specialIn K u "__get__") (some none) && !(PySem.W.copiedNames.contains f))
  | _ => false
theorem conB_ok {K : PySem.W.Frag} {C : Addr} {f : Str} {v : V} (h : conB K C f v = true) : ∃ u, Con K C f v u := by
  unfold conB at h
  cases e : PySem.W.findIn K (.ref C) f with
  | none => rw [e] at h; cases h
  | some o =>
    rw [e] at h
    cases o with
    | none => cases h
    | some u =>
      obtain ⟨h1, h⟩ := ba h
      obtain ⟨h2, h3⟩ := ba h
      exact ⟨u, e, relB_ok h1, eqO_ok h2, by simpa using h3⟩
def isiB (K : PySem.W.Frag) (C : Addr) : Bool := eqO (PySem.W.findIn K (.ref C) "__class__") (some (some (.builtin "object.__class__"))) && decide (PySem.W.mroIn K C (.type "object") = some true)
theorem isiB_ok {K : PySem.W.Frag} {C : Addr} (h : isiB K C = true) : Isi K C := by
  obtain ⟨h1, h2⟩ := ba h
  exact ⟨eqO_ok h1, of_decide_eq_true h2⟩
def mostB (K : PySem.W.Frag) (C : Addr) : Bool := PySem.W.readsIn K C (.type "type") && (eqO (PySem.W.specialIn K (.ref C) "__getattribute__") (some (some (.builtin "type.__getattribute__"))) && match PySem.W.findCls K (.ref C) (.type "type") "MOST" with
  | some (.val (.int i _)) => decide (i = 60)
  | _ => false)
theorem mostB_ok {K : PySem.W.Frag} {C : Addr} (h : mostB K C = true) : ∃ mc u, ClX.CRead K C mc ∧ ClX.CVal K C mc "MOST" (.int 60) u := by
  obtain ⟨h1, h⟩ := ba h
  obtain ⟨h2, h3⟩ := ba h
  split at h3
  · rename_i i t e
    have e60 : i = 60 := of_decide_eq_true h3
    rw [e60] at e
    exact ⟨_, _, ⟨h1, eqO_ok h2⟩, e, t, rfl⟩
  · cases h3
/-! ### properties -/
def pA (K : PySem.W.Frag) (C : Addr) (f : Str) : Addr := match PySem.W.findIn K (.ref C) f with
  | some (some (.ref p)) => p
  | _ => 0
def pG (K : PySem.W.Frag) (C : Addr) (f : Str) : Addr := match PySem.W.recIn K (pA K C f) "property" with
  | some (.ref g :: _) => g
  | _ => 0
def fnA (K : PySem.W.Frag) (a : Addr) : FnW := match K.lookup a with
  | some ⟨_, _, .func fd, _⟩ => some (fd.name, fd.qualname, fd.params, fd.body, fd.scope, fd.globals, fd.closure, fd.builtins)
  | _ => none
def propB (K : PySem.W.Frag) (C : Addr) (f qual : Str) : Bool := eqO (PySem.W.findIn K (.ref C) f) (some (some (.ref (pA K C f)))) && (eqO (PySem.W.specialIn K (.ref (pA K C f)) "__get__") (some (some (.builtin "property.__get__"))) &&
  (decide (PySem.W.takesIn K (.ref (pA K C f)) = some true) && ((match PySem.W.recIn K (pA K C f) "property" with
    | some (.ref _ :: _) => true
    | _ => false) && (PySem.W.keepIn K (.ref (pG K C f)) && match K.lookup (pG K C f) with
      | some ⟨_, _, .func fd, _⟩ => PySem.W.codeIn K fd.code qual && dflB K fd.defaults []
      | _ => false))))
theorem propB_ok {K : PySem.W.Frag} {C : Addr} {f qual : Str} {st : Stmt} (h : propB K C f qual = true) (e : fnA K (pG K C f) = some (f, qual, defArgs st, .stmts (defBody st), defScope st, mainGlobals, [], builtinsNs)) : PropOf K C f (pA K C f) (pG K C f) ∧ ∃ fd, L2.Fun K f qual st (pG K C f) fd := by
  obtain ⟨h1, h⟩ := ba h
  obtain ⟨h2, h⟩ := ba h
  obtain ⟨h3, h⟩ := ba h
  obtain ⟨h4, h⟩ := ba h
  obtain ⟨h5, h6⟩ := ba h
  refine ⟨⟨eqO_ok h1, eqO_ok h2, of_decide_eq_true h3, ?_⟩, ?_⟩
  · split at h4
    · rename_i g r er
      refine ⟨r, ?_⟩
      rw [er]
      unfold pG
      rw [er]
    · cases h4
  · unfold fnA at e
    cases q : K.lookup (pG K C f) with
    | none => rw [q] at h6; cases h6
    | some o =>
      obtain ⟨oc, od, dt, osl⟩ := o
      rw [q] at h6 e
      cases dt with
      | func fd =>
        obtain ⟨n1, n2, n3, n4, n5, n6, n7, n8, n9, n10, n11, n12, n13, n14, n15⟩ := fd
        have e2 : (some (n1, n2, n3, n4, n5, n6, n7, n15) : FnW) = some (f, qual, defArgs st, .stmts (defBody st), defScope st, mainGlobals, [], builtinsNs) := e
        simp only [Option.some.injEq, Prod.mk.injEq] at e2
        obtain ⟨g1, g2, g3, g4, g5, g6, g7, g8⟩ := e2
        subst g1 g2 g3 g4 g5 g6 g7 g8
        obtain ⟨k1, k2⟩ := ba h6
        have dn : n8 = Value.none := by
          rcases dflB_ok k2 with ⟨_, z⟩ | ⟨z, _⟩
          · exact z
          · exact absurd rfl z
        have dn2 : n8 = Value.none := dn
        subst dn2
        exact ⟨_, ⟨oc, od, n9, n10, n11, n12, n13, n14, osl, rfl, q, k1⟩, h5⟩
      | _ => cases h6
/-! ### the rest of the facts -/
def xB (K : PySem.W.Frag) : Bool := ([Kd.ins, .rem, .fro].all fun k =>
    conB K (ga K (kN k)) "SIGN" (.str k.sign) && (isiB K (ga K (kN k)) && (decide (PySem.W.kitOne K (.ref (ga K (kN k))) (.ref (ga K "Record")) = some true) && (decide (PySem.W.kitOne K (.ref (ga K (kN k))) (.ref (ga K "Fronted")) = some k.isF) &&
      (propB K (ga K (kN k)) "item" "Record.item" && propB K (ga K (kN k)) "slot" "Record.slot")))))
  && (eqO (PySem.W.specialIn K (.builtin "object.__class__") "__get__") (some (some (.builtin "getset_descriptor.__get__"))) && (decide (PySem.W.takesIn K (.builtin "object.__class__") = some true) && mostB K (ga K "Record")))
abbrev AlX : Type := AlD × (Bool × List FnW)
def propsAt : List (Kd × Str) := [(.ins, "item"), (.rem, "item"), (.fro, "item"), (.ins, "slot"), (.rem, "slot"), (.fro, "slot")]
def obsX (fa : List Fa) (fn : List DefD) (K : PySem.W.Frag) : AlX := (obsD fa fn K, xB K, propsAt.map fun q => fnA K (pG K (ga K (kN q.1)) q.2))
def valX (fn : List DefD) (ps : List FnW) : AlX := (valD fn, true, ps)
def SaysX (fa : List Fa) (fn : List DefD) (ps : List FnW) (K : PySem.W.Frag) : Prop := obsX fa fn K = valX fn ps
/-- what a def, a class, a namespace, a property's record name -/
def rF (g : Addr → Option Obj) (a : Addr) : List Addr := match g a with
  | some o => (match o.data with
    | .func fd => refV fd.code
    | .cls cd => cd.ns :: cd.mro.flatMap refV
    | _ => [])
  | none => []
def rNs (g : Addr → Option Obj) (a : Addr) : List Addr := match g a with
  | some o => (match o.data with
    | .dict es _ => es.toList.flatMap fun e => refV e.val
    | _ => [])
  | none => []
def rP (g : Addr → Option Obj) (a : Addr) : List Addr := match g a with
  | some o => (match o.data with
    | .func fd => refV fd.code
    | .fields vs => vs.toList.flatMap refV
    | _ => [])
  | none => []
/-- the part of the heap that the names reach -/
def asX (nm : List Str) (g : Addr → Option Obj) : List Addr :=
  let k0 := frG g [mainGlobals]
  let a1 := nm.map (ga k0)
  let a2 := a1.flatMap (rF g)
  let a3 := a2.flatMap (rNs g)
  let a4 := a3.flatMap (rP g)
  let a5 := a4.flatMap (rF g)
  mainGlobals :: cStatics :: (a1 ++ (a2 ++ (a3 ++ (a4 ++ a5))))
def obsXG (nm : List Str) (fa : List Fa) (fn : List DefD) (g : Addr → Option Obj) : AlX := obsX fa fn (frG g (asX nm g))
def hookX (nm : List Str) (fa : List Fa) (fn : List DefD) (ps : List FnW) : PySem.W.Hook where
  α := AlX
  obs := fun s => obsXG nm fa fn s.heap.get?
  val := fun _ => valX fn ps
  says := fun _ h => ∃ K : PySem.W.Frag, K.In h ∧ SaysX fa fn ps K
  of := fun _ _ e => ⟨_, frG_in, e⟩
  keeps := fun _ _ _ ⟨K, hK, c⟩ k => ⟨K, PySem.W.Frag.In.keeps hK k, c⟩
theorem obsXG_eq {nm : List Str} {fa : List Fa} {fn : List DefD} {ps : List FnW} {g : Addr → Option Obj} {s : Shared} (h : ∀ a, g a = s.heap.get? a) : obsXG nm fa fn g = (hookX nm fa fn ps).obs s := by
  have e : g = s.heap.get? := funext h
  rw [e] <;> rfl
/-- a def of no default -/
theorem fun_of {K : PySem.W.Frag} {x qual : Str} {st : Stmt} {kws : List (Str × V)} {f : Addr} {fd : FuncData} (F : FunD K x qual (defArgs st) (defBody st) (defScope st) [] kws f fd) : L2.Fun K x qual st f fd := by
  obtain ⟨oc, od, dV, kV, doc, pm, an, cdv, ct, osl, rfl, lk, hcd, hD, hK⟩ := F.ex
  rcases hD with ⟨_, rfl⟩ | ⟨e, _⟩
  · exact ⟨⟨oc, od, kV, doc, pm, an, cdv, ct, osl, rfl, lk, hcd⟩, F.kp⟩
  · exact absurd rfl e
theorem kbn_of {K : PySem.W.Frag} {x qual : Str} {st : Stmt} {f : Addr} {fd : FuncData} {ps : List Str} {n : Nat} (F : L2.Fun K x qual st f fd)
    (h : ∀ (kV doc pm : Value) (an : Option Addr) (cdv ct : Value) (us ws : List Value), us.length = n → ws.length = 1 → bindArgs (PySem.W.fnOf x qual (defArgs st) (defBody st) (defScope st) .none kV doc pm an cdv ct) ⟨us, ([PySem.Str.ofString "seen"] : List Str).zip ws⟩ = pure (ps.zip (us ++ ws))) :
    KBn K fd ps n ([PySem.Str.ofString "seen"] : List Str) (fun us ws => us ++ ws) (fun vs zs => vs ++ zs) := by
  obtain ⟨oc, od, kV, doc, pm, an, cdv, ct, osl, rfl, lk, hcd⟩ := F.ex
  exact ⟨fun s us ws _ l1 l2 => .of_eq (h kV doc pm an cdv ct us ws l1 l2), fun r1 r2 => r1.append r2⟩
end K21
/-! ## H1 -/
set_option Elab.async false
set_option linter.all false
set_option maxRecDepth 100000
set_option maxHeartbeats 0
/-! The top, run. -/
namespace K21
open PySem PySem.Spec PyProof.Rows L2 He
abbrev R : PySem.W.OpenRow := PySem.W.OpenLaw.row RW
def dF (x : Str) (st : Stmt) : DefD := ⟨(x, none), x, x, defArgs st, defBody st, defScope st, [], []⟩
def dM (C m q : Str) (st : Stmt) : DefD := ⟨(C, some m), m, q, defArgs st, defBody st, defScope st, [], []⟩
def dfs0 : List DefD := [dF "is_integer" (top 22), dF "is_item" (top 23), dF "are_records" (top 35), dF "items_of" (top 36), dF "is_log" (top 37), dF "need_log" (top 38), dF "need_seen" (top 43), dF "board_of" (top 45), dF "count_filled" (top 46), dF "with_item" (top 47), dF "options" (top 48), dF "fillings" (top 49), dF "conflict_on" (top 50), dF "need_lists" (top 51), dF "count" (top 52), dF "conflict" (top 53), dF "nth_list" (top 54), dF "is_filling" (top 55), dF "list_number" (top 56), dF "possible_lists" (top 57)]
def dfs1 : List DefD := [dF "certain" (top 58), dF "need_item" (top 59), dF "lists_with" (top 60), dF "positions" (top 61), dF "lowest_terms" (top 62), dF "share" (top 63), dF "_law_feed" (top 65), dF "_law_pick" (top 66), dF "_law_shuffle" (top 67), dF "_law_names" (top 68), dF "_law_slots" (top 69), dF "_law_model" (top 70), dF "_law_record" (top 71), dF "_law_book" (top 72), dF "_law_may" (top 73), dF "_law_sights" (top 74), dF "_law_some_list" (top 75), dF "_law_same" (top 76), dF "_law_facts" (top 77), dF "_law_mirror_right" (top 78)]
def dfs2 : List DefD := [dF "_law_renamed_right" (top 79), dF "_law_right" (top 80), dF "law" (top 81), dM "Board" "turned" "Board.turned" (inClass (top 44) 1), dM "Board" "far_items" "Board.far_items" (inClass (top 44) 2), dM "Board" "wrong_positions" "Board.wrong_positions" (inClass (top 44) 3), dM "Board" "free_places" "Board.free_places" (inClass (top 44) 4), dM "Board" "waiting_bounds" "Board.waiting_bounds" (inClass (top 44) 5), dM "Board" "spares" "Board.spares" (inClass (top 44) 6), dM "Board" "__init__" "Board.__init__" (inClass (top 44) 0), dM "Inserted" "__init__" "Record.__init__" (inClass (top 26) 2), dM "Removed" "__init__" "Record.__init__" (inClass (top 26) 2), dM "Fronted" "__init__" "Record.__init__" (inClass (top 26) 2)]
def dfs : List DefD := dfs0 ++ (dfs1 ++ (dfs2))
def fas0 : List Fa := [.glo "is_integer", .glo "is_item", .glo "are_records", .glo "items_of", .glo "is_log", .glo "need_log", .glo "need_seen", .glo "board_of", .glo "count_filled", .glo "with_item", .glo "options", .glo "fillings", .glo "conflict_on", .glo "need_lists", .glo "count", .glo "conflict", .glo "nth_list", .glo "is_filling", .glo "list_number", .glo "possible_lists"]
def fas1 : List Fa := [.glo "certain", .glo "need_item", .glo "lists_with", .glo "positions", .glo "lowest_terms", .glo "share", .glo "_law_feed", .glo "_law_pick", .glo "_law_shuffle", .glo "_law_names", .glo "_law_slots", .glo "_law_model", .glo "_law_record", .glo "_law_book", .glo "_law_may", .glo "_law_sights", .glo "_law_some_list", .glo "_law_same", .glo "_law_facts", .glo "_law_mirror_right"]
def fas2 : List Fa := [.glo "_law_renamed_right", .glo "_law_right", .glo "law", .glo "Record", .glo "Inserted", .glo "Removed", .glo "Fronted", .glo "Board", .free "isinstance", .free "len", .free "int", .free "bool", .free "str", .free "list", .free "dict", .free "tuple", .free "set", .free "all", .free "sum", .free "abs"]
def fas3 : List Fa := [.free "max", .free "sorted", .free "range", .free "enumerate", .free "zip", .int "MOST_LETTERS" 8, .int "MOST_LOG" 40, .str "LETTERS" "abcdefghijklmnopqrstuvwxyz", .str "FAR" "far", .str "WRONG" "wrong", .str "FEW" "few", .cls "Inserted", .mkr "Inserted", .cls "Removed", .mkr "Removed", .cls "Fronted", .mkr "Fronted", .cls "Board", .mkr "Board", .noat "Inserted" "held_item"]
def fas4 : List Fa := [.noat "Inserted" "held_slot", .noat "Removed" "held_item", .noat "Removed" "held_slot", .noat "Fronted" "held_item", .noat "Fronted" "held_slot", .noat "Board" "size", .noat "Board" "is_turned", .noat "Board" "floors", .noat "Board" "given", .meth "Board" "turned", .meth "Board" "far_items", .meth "Board" "wrong_positions", .meth "Board" "free_places", .meth "Board" "waiting_bounds", .meth "Board" "spares"]
def fas : List Fa := fas0 ++ (fas1 ++ (fas2 ++ (fas3 ++ (fas4))))
def prI : FnW := some ("item", "Record.item", defArgs (inClass (top 26) 4), .stmts (defBody (inClass (top 26) 4)), defScope (inClass (top 26) 4), mainGlobals, [], builtinsNs)
def prS : FnW := some ("slot", "Record.slot", defArgs (inClass (top 26) 5), .stmts (defBody (inClass (top 26) 5)), defScope (inClass (top 26) 5), mainGlobals, [], builtinsNs)
def prs : List FnW := [prI, prI, prI, prS, prS, prS]
def nmR0 : List Str := ["is_integer", "is_item", "are_records", "items_of", "is_log", "need_log", "need_seen", "board_of", "count_filled", "with_item", "options", "fillings", "conflict_on", "need_lists", "count", "conflict", "nth_list", "is_filling", "list_number", "possible_lists"]
def nmR1 : List Str := ["certain", "need_item", "lists_with", "positions", "lowest_terms", "share", "_law_feed", "_law_pick", "_law_shuffle", "_law_names", "_law_slots", "_law_model", "_law_record", "_law_book", "_law_may", "_law_sights", "_law_some_list", "_law_same", "_law_facts", "_law_mirror_right"]
def nmR2 : List Str := ["_law_renamed_right", "_law_right", "law", "Record", "Inserted", "Removed", "Fronted", "Board"]
def nmR : List Str := nmR0 ++ (nmR1 ++ (nmR2))
def nms0 : List PySem.Str := ["_wall", "LogError", "NoItem", "NoIndex", "NoList", "NoLog", "NoSeen", "NoNumber", "NoPosition", "Impossible", "NoText", "LETTERS", "DIGITS", "MOST_ITEMS", "MOST_LETTERS", "AT", "INSERTED", "REMOVED", "FRONTED", "SIGNS", "is_integer", "is_item", "are_items", "need_items", "Record", "Inserted", "Removed", "Fronted", "is_number", "parts_of", "made"]
def nms1 : List PySem.Str := ["MOST_LOG", "are_records", "items_of", "is_log", "need_log", "FAR", "WRONG", "FEW", "need_seen", "Board", "board_of", "count_filled", "with_item", "options", "fillings", "conflict_on", "need_lists", "count", "conflict", "nth_list", "is_filling", "list_number", "possible_lists", "certain", "need_item", "lists_with", "positions", "lowest_terms", "share"]
def nms2 : List PySem.Str := ["_law_feed", "_law_pick", "_law_shuffle", "_law_names", "_law_slots", "_law_model", "_law_record", "_law_book", "_law_may", "_law_sights", "_law_some_list", "_law_same", "_law_facts", "_law_mirror_right", "_law_renamed_right", "_law_right"]
def nms : List PySem.Str := nms0 ++ (nms1 ++ nms2)
abbrev hk : PySem.W.Hook := hookX nmR fas dfs prs
def ob (s : PySem.W.SharedT) : AlX := obsXG nmR fas dfs (HandSHeadRun.getT s)
theorem ob_eq (s : PySem.W.SharedT) : ob s = hk.obs s.abs := obsXG_eq (HandSHeadRun.getT_eq s)
theorem runTop (w : World) : HandSHeadRun.RunEq R (PySem.W.view R.prog [81]) hk ob 20000 nms w := by
  intro os
  kernel_rfl
end K21
/-! ## W2 -/
set_option Elab.async false
set_option linter.all false
set_option maxRecDepth 100000
set_option maxHeartbeats 4000000
/-! Integers, items, records. -/
namespace K21
open PySem PySem.Spec PyProof.Rows L2
section
variable {P : Program} {w : World} {K : PySem.W.Frag} {mg : Str → Option Value} {base : Heap} {C : Kd → Addr} {CB RC : Addr}
abbrev sis_integer : Stmt := top 22
abbrev Nis_integer : List Str := ["thing", "least", "most"]
theorem scis_integer : FnScope Nis_integer ["thing", "least", "most"] (defScope sis_integer) := ⟨rfl, rfl, rfl, by decide +kernel, rfl, by decide +kernel, by decide +kernel⟩
-- 0 thing, 1 least, 2 most
theorem cal_is_integer (F : DF K mg "is_integer" sis_integer ["thing", "least", "most"]) (T : Txt K mg C CB RC) : C8.Cal P w K mg base 1 "is_integer" spIsInteger [] := by
  refine F.cal scis_integer (fun vs H Q E h => ?_) (fun f cdv A outer s H vs Q E hr h => ?_)
  · obtain ⟨i, a, b, rfl, _⟩ := h
    rfl
  · obtain ⟨i, a, b, rfl, h1, h2, q⟩ := h
    refine ⟨_, (pss_one (ps_ret (pe_and (pe_callB (call_isi_k K) (by rfl) T.isinstance_ (by decide +kernel) (pa_cons (pv 0) (pa_cons (pe_bltn (v := .ty "int") (by rfl) T.int_ (by decide +kernel) rfl) pa_nil))) (pe_and (pe_not (pe_callB (call_isi_k K) (by rfl) T.isinstance_ (by decide +kernel) (pa_cons (pv 0) (pa_cons (pe_bltn (v := .ty "bool") (by rfl) T.bool_ (by decide +kernel) rfl) pa_nil)))) (pe_one (pe_chain op_le op_le (pv 1) (pv 0) (pv 2))))))), ?_⟩
    refine ⟨_, rfl, _, _, _, _, true, rfl, .ty _, .base (.int _), kit_ty (by decide +kernel), true, rfl, iteT ?_⟩
    refine ⟨_, rfl, _, _, _, _, false, rfl, .ty _, .base (.int _), kit_ty (by decide +kernel), false, rfl, true, rfl, iteT ?_⟩
    refine ⟨_, rfl, _, rfl, _, _, rfl, rfl, true, bl_t (decide_eq_true h1), iteT ⟨_, rfl, _, _, rfl, rfl, ?_⟩⟩
    exact q_bl (decide_eq_true h2) q
abbrev sis_item : Stmt := top 23
abbrev Nis_item : List Str := ["thing", "letter"]
theorem scis_item : FnScope Nis_item ["thing"] (defScope sis_item) := ⟨rfl, rfl, rfl, by decide +kernel, rfl, by decide +kernel, by decide +kernel⟩
-- 0 thing, 1 letter
theorem cal_is_item (F : DF K mg "is_item" sis_item ["thing"]) (T : Txt K mg C CB RC) : C8.Cal P w K mg base 1 "is_item" spIsItem [] := by
  refine F.cal scis_item (fun vs H Q E h => ?_) (fun f cdv A outer s H vs Q E hr h => ?_)
  · obtain ⟨z, rfl, _⟩ := h
    rfl
  · obtain ⟨z, rfl, ⟨h1, h8, hc⟩, q⟩ := h
    refine ⟨_, (pss_cons (ps_if (PW.pt (pw_or (pt_not (pt_val (pe_callB (call_isi_k K) (by rfl) T.isinstance_ (by decide +kernel) (pa_cons (pv 0) (pa_cons (pe_bltn (v := .ty "str") (by rfl) T.str_ (by decide +kernel) rfl) pa_nil))))) (pw_or1 (pt_not (pt_chain op_le op_le pe_int (pe_callB call_len_str (by rfl) T.len_ (by decide +kernel) (pa_cons (pv 0) pa_nil)) (C8.pe_gc (by rfl) T.vMOST_LETTERS)))))) (pss_one (ps_ret pe_bl)) pss_nil)
      (pss_one (ps_ret (pe_callB (cr_all_k K rfl) (by rfl) T.all_ (by decide +kernel) (pa_cons (pe_lc (own := [("letter", 1)]) rfl scis_item.nd (pi_str (pv 0)) (blkOk_by (N := Nis_item) (sc := defScope sis_item) (own := [("letter", 1)]) (by decide +kernel)) (fun _ _ _ _ _ => (pg_name (i := 1) scis_item.nd rfl (Or.inl rfl))) (fun _ _ _ _ _ => pts_nil) (fun _ _ _ _ _ => (pe_cmpR op_in_sign (pv 1) (C8.pe_gc (by rfl) T.vLETTERS) (by rfl)))) pa_nil))))), ?_⟩
    refine ⟨_, rfl, _, _, _, _, true, rfl, .ty _, .base (.str _), kit_ty (by decide +kernel), true, rfl, iteF ?_⟩
    refine ⟨_, rfl, _, rfl, Nat.le_trans h8 (by decide), _, _, rfl, rfl, true, bl_t (decide_eq_true (by omega)), iteT ⟨_, _, rfl, rfl, true, bl_t (decide_eq_true (by omega)), iteF ?_⟩⟩
    refine ⟨_, rfl, _, rfl, fun D hD => lcP walk_str (fun _ => some (.bl true)) hD (Nat.le_trans h8 (by decide)) (fun _ _ => trivial) (fun i x H1 H' Qy Qn hi e y k1 k2 => ?_) fun H' e h => ?_⟩
    · obtain ⟨rfl, c, hcc, rfl⟩ := y
      refine ⟨rfl, iteT (B := Qn H') ⟨_, rfl, c, letters, rfl, rfl, ?_⟩⟩
      exact q_bl (decide_eq_true (hc c (Array.mem_toList_iff.mpr (Array.mem_of_getElem? hcc)))) (k1 _ _ (Evl.Ex.refl _) rfl)
    · exact rd_all h (q _ e)
abbrev sRecord___init : Stmt := inClass (top 26) 2
abbrev NRecord___init : List Str := ["self", "item", "slot"]
theorem scRecord___init : FnScope NRecord___init ["self", "item", "slot"] (defScope sRecord___init) := ⟨rfl, rfl, rfl, by decide +kernel, rfl, by decide +kernel, by decide +kernel⟩
-- 0 self, 1 item, 2 slot
theorem mak_rec (T : Txt K mg C CB RC) (c_is_item : C8.Cal P w K mg base 1 "is_item" spIsItem []) (c_is_integer : C8.Cal P w K mg base 1 "is_integer" spIsInteger [])
    {x : Str} {k : Kd} (F : DC K mg x (C k) "Record.__init__" sRecord___init ["self", "item", "slot"]) : C8.Mak P w K mg base 2 x (C k) (spInit (C k)) [] := by
  refine F.mak scRecord___init (fun vs H Q E h => ?_) (fun f cdv A outer s H vs Q E hr h => ?_)
  · obtain ⟨p, dx, n, i, rfl, _⟩ := h
    rfl
  · obtain ⟨p, dx, n, i, rfl, hn, h0, h6, hp, q⟩ := h
    refine ⟨_, (pss_cons (ps_if (pt_not (pt_val (C8.pe_c c_is_item hr (by decide) (by rfl) (pa_cons (pv 1) pa_nil)))) (pss_one ps_never) pss_nil)
      (pss_cons (ps_if (pt_not (pt_val (C8.pe_c c_is_integer hr (by decide) (by rfl) (pa_cons (pv 2) (pa_cons pe_int (pa_cons (ClX.pe_cval (C8.pe_gc (by rfl) T.vRecord)) pa_nil)))))) (pss_one ps_never) pss_nil)
      (pss_cons (ps_fld (pv 0) (pv 1) rfl)
      (pss_one (ps_fld (pv 0) (pv 2) rfl))))), ?_⟩
    refine ⟨_, rfl, n, rfl, hn, fun H1 e1 => ⟨true, rfl, iteF ?_⟩⟩
    obtain ⟨mc, u, hm1, hm2⟩ := T.most
    refine ⟨_, rfl, RC, mc, _, u, rfl, hm1, hm2, i, 0, 60, rfl, h0, h6, true, rfl, iteF ?_⟩
    have hp1 := e1 _ _ hp
    refine ⟨_, rfl, _, rfl, p, C k, dx, _, rfl, hp1, T.cl k, T.nIt k, (by show 0 < 1000; decide), ?_⟩
    refine ⟨_, rfl, _, rfl, p, C k, dx, _, rfl, upd_same, T.cl k, T.nSl k, (by show 1 < 1000; decide), ?_⟩
    refine q _ (fun b o hb hbo => ?_) ?_
    · rw [upd_ne hb, upd_ne hb]; exact e1 _ _ hbo
    · rw [upd_same, recF_put]
end
end K21
/-! ## R1 -/
set_option Elab.async false
set_option linter.all false
set_option maxRecDepth 100000
set_option maxHeartbeats 4000000
/-! len(set(xs)), xs a list of texts: how many different ones. -/
namespace K21
open PySem PySem.Spec PyProof.Rows L2
def addD (l : List Str) (v : Str) : List Str := if l.any (· == v) then l else l ++ [v]
/-- the different ones of the first i, as they come -/
def dif (xs : List Str) (i : Nat) : List Str := ((List.range i).map fun j => xs.getD j Str.empty).foldl addD []
theorem dif_succ (xs : List Str) (i : Nat) : dif xs (i + 1) = addD (dif xs i) (xs.getD i Str.empty) := by
  unfold dif; rw [List.range_succ, List.map_append, List.foldl_append]; rfl
theorem dif_le (xs : List Str) : ∀ i, (dif xs i).length ≤ i
  | 0 => Nat.le_refl _
  | i + 1 => by
    have := dif_le xs i
    rw [dif_succ]; unfold addD
    split
    · omega
    · rw [List.length_append]; simp; omega
theorem addD_any (l : List Str) (v k : Str) : (addD l v).any (· == k) = (l.any (· == k) || decide (k = v)) := by
  unfold addD
  by_cases h : l.any (· == v) = true
  · rw [if_pos h]
    by_cases e : k = v
    · subst e; rw [h]; simp
    · simp [e]
  · rw [if_neg h, List.any_append]
    by_cases e : k = v
    · subst e; simp
    · have hb : (v == k) = false := beq_eq_false_iff_ne.mpr fun z => e z.symm
      simp [hb, e]
theorem addD_len (l : List Str) (v : Str) : (addD l v).length = if l.any (· == v) then l.length else l.length + 1 := by
  unfold addD; split <;> simp
theorem dif_mem (xs : List Str) : ∀ i, i ≤ xs.length → ∀ k, k ∈ dif xs i → k ∈ xs
  | 0, _, k, h => by simp [dif] at h
  | i + 1, hi, k, h => by
    have e : xs.getD i Str.empty = xs[i] := by rw [List.getD_eq_getElem?_getD, List.getElem?_eq_getElem (by omega)]; rfl
    rw [dif_succ, e] at h
    unfold addD at h
    split at h
    · exact dif_mem xs i (by omega) k h
    · rcases List.mem_append.mp h with z | z
      · exact dif_mem xs i (by omega) k z
      · have : k = xs[i] := by simpa using z
        rw [this]; exact List.getElem_mem _
/-- no text twice: as many as they are -/
theorem dif_nodup {xs : List Str} (h : xs.Nodup) : ∀ i, i ≤ xs.length → dif xs i = xs.take i
  | 0, _ => rfl
  | i + 1, hi => by
    have e : xs.getD i Str.empty = xs[i] := by rw [List.getD_eq_getElem?_getD, List.getElem?_eq_getElem (by omega)]; rfl
    rw [dif_succ, dif_nodup h i (by omega), e, List.take_add_one, List.getElem?_eq_getElem (by omega)]
    unfold addD
    have no : ((xs.take i).any (· == xs[i])) = false := by
      rw [List.any_eq_false]
      intro y hy z
      have z : y = xs[i] := eq_of_beq z
      obtain ⟨j, hj⟩ := List.mem_iff_getElem?.mp hy
      obtain ⟨hjl, ej⟩ := List.getElem?_eq_some_iff.mp hj
      rw [List.length_take] at hjl
      rw [List.getElem_take] at ej
      exact absurd (ej.trans z) (List.pairwise_iff_getElem.mp h j i (by omega) (by omega) (by omega))
    rw [no, if_neg Bool.false_ne_true]; rfl
/-- one text, so often -/
theorem dif_same {xs : List Str} {a : Str} (h : ∀ x ∈ xs, x = a) : ∀ i, i ≤ xs.length → (dif xs i).length ≤ 1
  | 0, _ => by simp [dif]
  | i + 1, hi => by
    have e : xs.getD i Str.empty = a := by
      rw [List.getD_eq_getElem?_getD, List.getElem?_eq_getElem (by omega)]
      exact h _ (List.getElem_mem _)
    have ih := dif_same h i (by omega)
    rw [dif_succ, e, addD_len]
    split
    · exact ih
    · rename_i hn
      have : dif xs i = [] := by
        cases q : dif xs i with
        | nil => rfl
        | cons y r =>
          have hy := h y (dif_mem xs i (by omega) y (by rw [q]; simp))
          rw [q, hy] at hn
          simp at hn
      rw [this]; simp
section
variable {prog : Program} {w : World} {A : Around} {R : Result → Shared → Prop} {I : Addr} {fp wr : List Addr} {G : Array GenState → Array GenState → Prop} {n : Nat} {P : Nat → Value → Prop} {St : Nat → Shared → Prop}
theorem setLoop (W : WalksS prog w A.in1 I fp wr G n P St) (S : Addr) (hS : S ∉ fp) (xs : List Str) (hval : ∀ i v, P i v → ∃ t, v = .str (xs.getD i Str.empty) t) (hb : n + 1 < scanBound) :
    ∀ (k i : Nat) (s : Shared), n - i = k → i ≤ n → St i s → s.heap.SetOf (PySem.strKind prog w) S (fun q => (dif xs i).any (· == q)) (dif xs i).length →
      (∀ s', Moved (S :: wr) G s s' → s'.heap.SetOf (PySem.strKind prog w) S (fun q => (dif xs n).any (· == q)) (dif xs n).length → R (.ok (.ret .none)) s') →
      codeAny (model prog w) A (.builtin "set.update.loop" ⟨[.ref S, .ref I], []⟩) R s := by
  have hw : S ∉ wr := fun z => hS (W.sub _ z)
  have hsub : ∀ b ∈ wr, b ∈ S :: wr := fun b z => List.mem_cons_of_mem _ z
  intro k
  induction k with
  | zero =>
    intro i s hk hi st hset hR
    obtain rfl : i = n := by omega
    refine codeAny_builtin PyProof.Rows.F.entry_set_update_loop ?_
    rw [Around.under_plainId PyProof.Rows.F.plain_set_update_loop _]
    show wpAny _ A.in1 (pyNext (.ref I) >>= _) _ _ s
    refine wpAny_bind (W.done s _ _ st fun s' hm => ?_)
    show wpAny _ A.in1 (ret Value.none) _ _ s'
    refine wpAny_pure (hR s' (hm.mono hsub) ?_)
    obtain ⟨o, es, ep, t, ho, more⟩ := hset
    exact ⟨o, es, ep, t, hm.heap S _ hw ho, more⟩
  | succ k ih =>
    intro i s hk hi st hset hR
    have lt : i < n := by omega
    refine codeAny_builtin PyProof.Rows.F.entry_set_update_loop ?_
    rw [Around.under_plainId PyProof.Rows.F.plain_set_update_loop _]
    show wpAny _ A.in1 (pyNext (.ref I) >>= _) _ _ s
    refine wpAny_bind (W.item i s _ _ lt st fun v s' hP st' hm => ?_)
    obtain ⟨t, rfl⟩ := hval i v hP
    have hset' : s'.heap.SetOf (PySem.strKind prog w) S (fun q => (dif xs i).any (· == q)) (dif xs i).length := by
      obtain ⟨o, es, ep, tb, ho, more⟩ := hset
      exact ⟨o, es, ep, tb, hm.heap S _ hw ho, more⟩
    show wpAny _ A.in1 (holding [Value.str (xs.getD i Str.empty) t] (setAdd S (.str (xs.getD i Str.empty) t)) >>= _) _ _ s'
    refine wpAny_bind (wpAny_holding ?_)
    unfold setAdd
    refine wpAny_holding ?_
    refine wpAny_bind ((PySem.strKind prog w).pyHash (k := xs.getD i Str.empty) (strKind_is _ _ _ _) ?_)
    have room : (dif xs i).length + 1 < scanBound := by have := dif_le xs i; omega
    refine wpAny_setAddHashed_of (knd := PySem.strKind prog w) (s := { s' with toks := s'.toks + 1 }) (strKind_is _ _ _ _) rfl hset' room fun h' hsb h2 => ?_
    have hi2 : h'.SetOf (PySem.strKind prog w) S (fun q => (dif xs (i + 1)).any (· == q)) (dif xs (i + 1)).length :=
      SetOf_congr h2 (fun q => by rw [dif_succ, addD_any]) (by rw [dif_succ, addD_len])
    refine wpAny_pure ⟨plainId_quiet PyProof.Rows.F.plain_set_update_loop _, ih (i + 1) _ (by omega) lt (W.frame _ s' _ _ st' (Nat.le_succ _) fun b hb o e => ?_) hi2 fun s2 hm2 hset2 => ?_⟩
    · rw [hsb.2 b fun z : b = S => hS (by rw [← z]; exact hb)]; exact e
    · refine hR s2 (Moved.trans W.gtrans ((hm.mono hsub).then_heap (Nat.le_succ _) fun b o hb e => ?_) hm2) hset2
      rw [hsb.2 b fun z : b = S => hb (by rw [z]; exact List.mem_cons_self)]; exact e
end
abbrev set0 (led : Bool) : Obj := { cls := .type "set", dict := none, data := .set #[] 0 (.fresh 0 0 led) }
section
variable {prog : Program} {w : World} {A : Around} {E : Value → Shared → Prop} {s : Shared}
theorem call_setS {l : Addr} {items : Array Value} {xs : List Str} {Q : Value → Shared → Prop} (hh : A.handled = none) (hl : s.heap.IsList l items) (hi : PyProof.Rows.StrsAre items.toList xs) (hb : items.size + 1 < scanBound)
    (h : ∀ (h' : Heap) (tk : Nat), h'.SetOf (PySem.strKind prog w) s.heap.objs.size (fun q => (dif xs items.size).any (· == q)) (dif xs items.size).length →
      (∀ b o, b < s.heap.objs.size → s.heap.get? b = some o → h'.get? b = some o) → Q (.ref s.heap.objs.size) { s with heap := h', toks := tk }) :
    wpAny (model prog w) A (call (.type "set") [.ref l]) Q E s := by
  obtain ⟨c, tl, hmro⟩ := PySem.F.called_set.mro
  have hmade := PySem.F.called_set.made
  have hsub := PySem.F.called_set.sub
  refine wpAny_call (codeAny_of_tree ?_)
  show wpAny _ _ (callAny (.type "set") _) _ _ _
  refine wpAny_pure ⟨Code.quiet_builtin _ (by decide +kernel), codeAny_builtin PySem.F.entry_type_call ?_⟩
  rw [Around.under_plain (weight_type_call_type "set" [.ref l] []) rfl]
  have h1 := PySem.F.called_set.notType
  have h2 := PySem.F.called_set.canCreate
  have hct := PySem.F.typeCall_set_1 (.ref l)
  repeat (any_goals (first | assumption | wp_step))
  refine codeAny_mono (code_set_new_1 (.ref l) (E := E) (Q₁ := fun obj s₁ => ∃ led : Bool, obj = .ref s.heap.objs.size ∧ s₁ = { s with heap := s.heap.push (set0 led) }) fun led => ⟨led, rfl, rfl⟩) fun r s₁ hr => ?_
  cases r with
  | error e => exact hr
  | ok fl =>
    cases fl with
    | ret obj =>
      obtain ⟨led, rfl, rfl⟩ := hr
      have hS : (s.heap.push (set0 led)).get? s.heap.objs.size = some (set0 led) := Heap.get?_push_size _ rfl
      have hT : Shared.TypeIs { s with heap := s.heap.push (set0 led) } (.ref s.heap.objs.size) "set" := ⟨_, hS, rfl⟩
      have hli := PySem.F.called_set.init.lookup
      have hbi := PySem.F.called_set.init.bind (.ref s.heap.objs.size)
      repeat (any_goals (first | assumption | wp_step))
      refine codeAny_mono (codeAny_call_builtin (R := wants (fun r s₂ => r = .none ∧ ∃ h' tk, s₂ = { s with heap := h', toks := tk } ∧
          h'.SetOf (PySem.strKind prog w) s.heap.objs.size (fun q => (dif xs items.size).any (· == q)) (dif xs items.size).length ∧
          (∀ b o, b < s.heap.objs.size → s.heap.get? b = some o → h'.get? b = some o)) E) PySem.F.called_set.init.plain PySem.F.entry_set_init (check_set_init_1 hT ?_)) fun r₂ s₂ hr₂ => ?_
      · obtain ⟨ol, hol, hcl, nl, hdl⟩ := hl
        obtain ⟨ocls, odict, odata, oslots⟩ := ol
        simp only at hcl hdl
        subst hcl; subst hdl
        have hol' : (s.heap.push (set0 led)).get? l = some { cls := .type "list", dict := odict, data := .seq items nl, slots := oslots } := Heap.get?_push_of_some _ hol
        have hsls := PySem.F.sub_list_set
        have hslf := PySem.F.sub_list_frozenset
        have hne : (Value.type "list" == Value.type "dict") = false := by decide
        have hl1 : (s.heap.push (set0 led)).IsList l items := ⟨_, hol', rfl, nl, rfl⟩
        unfold Builtin.«set.__init__» noKeywords Builtin.Frozenset.updateFrom
        generalize hPI : pyIter = PI
        wp_walk
        subst hPI
        refine wpAny_pyIter_list hl1 ?_
        refine wpAny_bind (wpAny_runValue ?_)
        have hlS : l < s.heap.objs.size := Heap.lt_size hol
        have hh3 : A.in1.in1.in1.handled = none := by simp [hh]
        have hneI : l ≠ (s.heap.push (set0 led)).objs.size := by
          rw [Heap.size_push]; exact Nat.ne_of_lt (Nat.lt_succ_of_lt hlS)
        have hSf : s.heap.objs.size ∉ [(s.heap.push (set0 led)).objs.size, l] := by
          rw [Heap.size_push]
          intro z
          rcases List.mem_cons.mp z with z | z
          · exact absurd z (Nat.ne_of_lt (Nat.lt_succ_self _))
          · exact absurd (List.mem_singleton.mp z) (Nat.ne_of_gt hlS)
        have hval : ∀ (i : Nat) (v : Value), items[i]? = some v → ∃ t, v = .str (xs.getD i Str.empty) t := fun i v hv => SS.strs_at hi i v (by rw [Array.getElem?_toList]; exact hv)
        refine setLoop ((Walks.list hh3 _ l hneI items).toS) s.heap.objs.size hSf xs hval hb (items.size - 0) 0 _ (by omega) (Nat.zero_le _)
          ⟨⟨_, Heap.get?_push_size _ rfl, rfl, rfl⟩, (hl1.push _)⟩ ?hS0 ?hR
        case hS0 =>
          have hget : ((s.heap.push (set0 led)).push { cls := .type "list_iterator", data := .fields #[.ref l, .int 0 0] }).get? s.heap.objs.size = some (set0 led) := Heap.get?_push_of_some _ hS
          exact PyProof.Rows.SetOf_congr ((PyProof.Rows.setObjOf_fresh (knd := PySem.strKind prog w) led).setOf hget (by unfold scanBound; omega)) (fun _ => rfl) rfl
        case hR =>
          intro s' hm hS'
          obtain ⟨h', g', d', tk', os'⟩ := s'
          have eg : g' = s.gens := hm.gens
          have ed : d' = s.drawn := hm.drawn
          have eo : os' = s.os := hm.os
          subst eg; subst ed; subst eo
          show wpAny _ _ _ _ _ _
          refine wpAny_pure ?_
          show wpAny _ _ (ret Value.none) _ _ _
          refine wpAny_pure ⟨rfl, h', tk', rfl, hS', fun b o hb e => ?_⟩
          have n1 : b ≠ s.heap.objs.size := Nat.ne_of_lt hb
          have n2 : b ≠ (s.heap.push (set0 led)).objs.size := by
            rw [Heap.size_push]; exact Nat.ne_of_lt (Nat.lt_succ_of_lt hb)
          refine hm.heap b o (fun z => ?_) (Heap.get?_push_of_some _ (Heap.get?_push_of_some _ e))
          rcases List.mem_cons.mp z with z | z
          · exact n1 z
          · exact n2 (List.mem_singleton.mp z)
      · cases r₂ with
        | error e => exact hr₂
        | ok fl₂ =>
          cases fl₂ with
          | ret r =>
            obtain ⟨rfl, h', tk, rfl, hS', hk⟩ := hr₂
            repeat (any_goals (first | assumption | wp_step))
            exact h h' tk hS' hk
          | _ => exact hr₂
    | _ => exact hr
end
def tLenSetS (K : PySem.W.Frag) (ta : TE) : TE := fun σ H Q => ta σ H fun x H1 => ∃ (l : Addr) (xs : List Str), x = .ref l ∧ SqL K H1 l (xs.map V.str) ∧ xs.length ≤ 1000 ∧ Q (.int ((dif xs xs.length).length : Nat)) H1
theorem pe_lenSetS {X : Cx} {a : Expr} {ta : TE} {p p2 q pos : Pos} (hg : Gl X "len") (hm : X.mg "len" = none) (hg2 : Gl X "set") (hm2 : X.mg "set" = none) (ha : PE X a ta) (hc : X.calm = true := by rfl)
    (na : starEach [a] X.env = (false, eval a X.env) :: starEach [] X.env := by rfl) : PE X (.Call (.Name "len" p) [.Call (.Name "set" p2) [a] [] q] [] pos) (tLenSetS X.K ta) := by
  refine ⟨fun pins s σ H Q I h => ?_⟩
  refine Call_ (ld_blt I hg hm boot_len ?_)
  refine PyProof.Rows.callWith_builtin1 (PyProof.Rows.args_cons ?_ rfl) rfl rfl
  refine Call_ (ld_blt I hg2 hm2 boot_set ?_)
  refine PyProof.Rows.callWith_type1 (PyProof.Rows.args_cons (thn (ha.run pins s σ H _ I h) fun v s1 ⟨x, H1, I1, r1, q1⟩ => PyProof.Rows.args_nil ?_) na) na rfl
  obtain ⟨l, xs, rfl, hq, hl, q1⟩ := q1
  cases r1
  obtain ⟨its, r, pl, hz⟩ := I1.list hq
  have hlen : its.toArray.size = xs.length := by rw [List.size_toArray, ← r.length, List.length_map]
  refine call_setS (I1.ok.hd hc) pl.isList (by simpa using strsAre_of r) (by rw [hlen]; unfold scanBound; omega) fun h' tk hS hk => ?_
  refine PyProof.Rows.args_nil ?_
  rw [hlen] at hS
  have := dif_le xs xs.length
  obtain ⟨o, es, ep, t, ho, hex, hd, _, _, _, hf, hn⟩ := hS
  have I2 : Inv X pins σ H1 { s1 with heap := h', toks := tk } := I1.kept fun b o e => hk b o (Heap.lt_size e) e
  exact call_len_set ho hex hd hf (by rw [hn] <;> omega) ⟨.int (dif xs xs.length).length, H1, I2.tok _, ⟨_, by rw [hn]⟩, q1⟩
end K21
/-! ## W3 -/
set_option Elab.async false
set_option linter.all false
set_option maxRecDepth 100000
set_option maxHeartbeats 4000000
/-! Logs: what they must be. -/
namespace K21
open PySem PySem.Spec PyProof.Rows L2
/-- a log at a: records of the kind k, their items and indices rows -/
def BookAt (C : Kd → Addr) (H : Hp) (a : Addr) (k : Kd) (rows : List (Str × Int)) : Prop :=
  ∃ rs : List Addr, H a = some (.lst (rs.map V.ref)) ∧ rs.length = rows.length ∧ ∀ (i : Nat) r n s, rs[i]? = some r → rows[i]? = some (n, s) → RecAt C H r k n s
theorem BookAt.ex {C : Kd → Addr} {H H' : Hp} {a : Addr} {k : Kd} {rows : List (Str × Int)} (h : BookAt C H a k rows) (e : Ex H H') : BookAt C H' a k rows := by
  obtain ⟨rs, h1, h2, h3⟩ := h
  exact ⟨rs, e _ _ h1, h2, fun i r n s a b => (h3 i r n s a b).ex e⟩
/-- the i-th of a log -/
theorem BookAt.at {C : Kd → Addr} {H : Hp} {a : Addr} {k : Kd} {rows : List (Str × Int)} (h : BookAt C H a k rows) :
    ∃ xs : List V, H a = some (.lst xs) ∧ xs.length = rows.length ∧ ∀ (i : Nat) x, xs[i]? = some x → ∃ r n s, x = V.ref r ∧ rows[i]? = some (n, s) ∧ RecAt C H r k n s := by
  obtain ⟨rs, h1, h2, h3⟩ := h
  refine ⟨_, h1, by rw [List.length_map]; exact h2, fun i x hx => ?_⟩
  rw [List.getElem?_map] at hx
  cases e : rs[i]? with
  | none => rw [e] at hx; cases hx
  | some r =>
    rw [e] at hx
    have hi := (List.getElem?_eq_some_iff.mp e).1
    have e2 : rows[i]? = some rows[i] := List.getElem?_eq_getElem (by omega)
    exact ⟨r, rows[i].1, rows[i].2, (Option.some.inj hx).symm, e2, h3 i r _ _ e e2⟩
def vo : Option Str → V
  | some s => .str s
  | none => .non
theorem fm_len {n : Nat} {f : Nat → Option V} {xs : List V} (h : (List.range n).filterMap f = xs) : xs.length ≤ n := by
  have := List.length_filterMap_le f (List.range n)
  rw [List.length_range, h] at this; exact this
theorem range_get {β : Type} (l : List β) (f : Nat → Option V) (g : β → V) (h : ∀ i x, l[i]? = some x → f i = some (g x)) : (List.range l.length).filterMap f = l.map g := by
  have e : (List.range l.length).map f = l.map (fun x => some (g x)) := by
    apply List.ext_getElem?
    intro i
    rw [List.getElem?_map, List.getElem?_map]
    by_cases hi : i < l.length
    · rw [List.getElem?_range hi, List.getElem?_eq_getElem hi]
      exact congrArg some (h i _ (List.getElem?_eq_getElem hi))
    · rw [List.getElem?_eq_none (by simpa using hi), List.getElem?_eq_none (by simpa using hi)]; rfl
  have e2 : (List.range l.length).filterMap f = ((List.range l.length).map f).filterMap id := by rw [List.filterMap_map]; rfl
  rw [e2, e, List.filterMap_map]
  have : (id ∘ fun x => some (g x)) = fun x => some (g x) := rfl
  rw [this, List.filterMap_eq_map']
/-- what is kept of a list -/
theorem range_filter {β : Type} (l : List β) (f : Nat → Option V) (g : β → Option V) (h : ∀ i x, l[i]? = some x → f i = g x) : (List.range l.length).filterMap f = l.filterMap g := by
  have e : (List.range l.length).map f = l.map g := by
    apply List.ext_getElem?
    intro i
    rw [List.getElem?_map, List.getElem?_map]
    by_cases hi : i < l.length
    · rw [List.getElem?_range hi, List.getElem?_eq_getElem hi]
      exact congrArg some (h i _ (List.getElem?_eq_getElem hi))
    · rw [List.getElem?_eq_none (by simpa using hi), List.getElem?_eq_none (by simpa using hi)]; rfl
  have e2 : (List.range l.length).filterMap f = ((List.range l.length).map f).filterMap id := by rw [List.filterMap_map]; rfl
  rw [e2, e, List.filterMap_map]; rfl
/-! ### promises -/
def spItem (C : Addr) : Sp := fun vs H Q _ => ∃ (r dx : Addr) (n : Str) (i : Int), vs = [.ref r] ∧ H r = some (.ins C dx (recF n i)) ∧ Q (.str n) H
def spSlot (C : Addr) : Sp := fun vs H Q _ => ∃ (r dx : Addr) (n : Str) (i : Int), vs = [.ref r] ∧ H r = some (.ins C dx (recF n i)) ∧ Q (.int i) H
def spAreRecords (C : Kd → Addr) : Sp := fun vs H Q _ => ∃ (a : Addr) (k : Kd) (rows : List (Str × Int)), vs = [.ref a, .int 40] ∧ BookAt C H a k rows ∧ rows.length ≤ 40 ∧ ∀ H', Ex H H' → Q (.bl true) H'
def spItemsOf (C : Kd → Addr) : Sp := fun vs H Q _ => ∃ (a : Addr) (k : Kd) (rows : List (Str × Int)), vs = [.ref a] ∧ BookAt C H a k rows ∧ rows.length ≤ 40 ∧ ∀ p H', H p = none → Ex H H' → H' p = some (.lst ((rows.map (·.1)).map V.str)) → Q (.ref p) H'
def spIsLog (C : Kd → Addr) : Sp := fun vs H Q _ => ∃ (a : Addr) (k : Kd) (rows : List (Str × Int)), vs = [.ref a] ∧ BookAt C H a k rows ∧ rows.length ≤ 40 ∧ (rows.map (·.1)).Nodup ∧ ∀ H', Ex H H' → Q (.bl true) H'
def spNeedLog (C : Kd → Addr) : Sp := fun vs H Q _ => ∃ (a : Addr) (k : Kd) (rows : List (Str × Int)), vs = [.ref a] ∧ BookAt C H a k rows ∧ rows.length ≤ 40 ∧ (rows.map (·.1)).Nodup ∧ ∀ H', Ex H H' → Q .non H'
/-- a seen list: items of the log, each at most once, or None -/
structure Sok (rows : List (Str × Int)) (g : Gv Str) : Prop where
  len : g.length = rows.length
  mem : ∀ n, some n ∈ g → n ∈ rows.map (·.1)
  one : (itms g).Nodup
def spNeedSeen (C : Kd → Addr) : Sp := fun vs H Q _ => ∃ (a b : Addr) (k : Kd) (rows : List (Str × Int)) (g : Gv Str), vs = [.ref a, .ref b] ∧ BookAt C H a k rows ∧ rows.length ≤ 40 ∧ H b = some (.lst (g.map vo)) ∧ Sok rows g ∧ ∀ H', Ex H H' → Q .non H'
section
variable {P : Program} {w : World} {K : PySem.W.Frag} {mg : Str → Option Value} {base : Heap} {C : Kd → Addr} {CB RC : Addr}
abbrev sRecord_item : Stmt := inClass (top 26) 4
abbrev NRecord_item : List Str := ["self"]
theorem scRecord_item : FnScope NRecord_item ["self"] (defScope sRecord_item) := ⟨rfl, rfl, rfl, by decide +kernel, rfl, by decide +kernel, by decide +kernel⟩
-- 0 self
abbrev sRecord_slot : Stmt := inClass (top 26) 5
abbrev NRecord_slot : List Str := ["self"]
theorem scRecord_slot : FnScope NRecord_slot ["self"] (defScope sRecord_slot) := ⟨rfl, rfl, rfl, by decide +kernel, rfl, by decide +kernel, by decide +kernel⟩
-- 0 self
theorem prp_item (T : Txt K mg C CB RC) {k : Kd} (F : DP K (C k) "item" "Record.item" sRecord_item) : Prp P w K mg base 1 (C k) "item" (spItem (C k)) := by
  refine F.prp scRecord_item (fun vs H Q E h => ?_) (fun f cdv A outer s H vs Q E hr h => ?_)
  · obtain ⟨r, dx, n, i, rfl, _⟩ := h
    rfl
  · obtain ⟨r, dx, n, i, rfl, hr1, q⟩ := h
    refine ⟨_, (pss_one (ps_ret (pe_fld_k K (pv 0) rfl))), ?_⟩
    exact ⟨_, rfl, r, C k, dx, _, _, rfl, hr1, T.cl k, T.nIt k, recF_item n i, q⟩
theorem prp_slot (T : Txt K mg C CB RC) {k : Kd} (F : DP K (C k) "slot" "Record.slot" sRecord_slot) : Prp P w K mg base 1 (C k) "slot" (spSlot (C k)) := by
  refine F.prp scRecord_slot (fun vs H Q E h => ?_) (fun f cdv A outer s H vs Q E hr h => ?_)
  · obtain ⟨r, dx, n, i, rfl, _⟩ := h
    rfl
  · obtain ⟨r, dx, n, i, rfl, hr1, q⟩ := h
    refine ⟨_, (pss_one (ps_ret (pe_fld_k K (pv 0) rfl))), ?_⟩
    exact ⟨_, rfl, r, C k, dx, _, _, rfl, hr1, T.cl k, T.nSl k, recF_slot n i, q⟩
theorem sign_ne (k : Kd) : decide (V.str k.sign = V.str "") = false := by
  cases k <;> decide +kernel
abbrev sare_records : Stmt := top 35
abbrev Nare_records : List Str := ["thing", "most", "record"]
theorem scare_records : FnScope Nare_records ["thing", "most"] (defScope sare_records) := ⟨rfl, rfl, rfl, by decide +kernel, rfl, by decide +kernel, by decide +kernel⟩
-- 0 thing, 1 most, 2 record
theorem cal_are_records (F : DF K mg "are_records" sare_records ["thing", "most"]) (T : Txt K mg C CB RC) : C8.Cal P w K mg base 1 "are_records" (spAreRecords C) [] := by
  refine F.cal scare_records (fun vs H Q E h => ?_) (fun f cdv A outer s H vs Q E hr h => ?_)
  · obtain ⟨a, k, rows, rfl, _⟩ := h
    rfl
  · obtain ⟨a, k, rows, rfl, hB, hl, q⟩ := h
    obtain ⟨xs, hx, hxl, hat⟩ := hB.at
    refine ⟨_, (pss_cons (ps_if (PW.pt (pw_or (pt_not (pt_val (pe_callB (call_isi_k K) (by rfl) T.isinstance_ (by decide +kernel) (pa_cons (pv 0) (pa_cons (pe_bltn (v := .ty "list") (by rfl) T.list_ (by decide +kernel) rfl) pa_nil))))) (pw_or1 (pt_cmpR op_gt (pe_callB (call_len_k K) (by rfl) T.len_ (by decide +kernel) (pa_cons (pv 0) pa_nil)) (pv 1) (nomark _))))) (pss_one (ps_ret pe_bl)) pss_nil)
      (pss_one (ps_ret (pe_callB (cr_all_k K rfl) (by rfl) T.all_ (by decide +kernel) (pa_cons (pe_lc (own := [("record", 2)]) rfl scare_records.nd (pi_list_k K (pv 0)) (blkOk_by (N := Nare_records) (sc := defScope sare_records) (own := [("record", 2)]) (by decide +kernel)) (fun _ _ _ _ _ => (pg_name (i := 2) scare_records.nd rfl (Or.inl rfl))) (fun _ _ _ _ _ => pts_nil) (fun _ _ _ _ _ => (pe_and (pe_callB (call_isi_k K) (by rfl) T.isinstance_ (by decide +kernel) (pa_cons (pv 2) (pa_cons (C8.pe_gc (by rfl) T.vRecord) pa_nil))) (pe_one (pe_cmpR op_ne (pe_con_k K (pv 2) rfl) pe_str (nomark _)))))) pa_nil))))), ?_⟩
    refine ⟨_, rfl, _, _, _, _, true, rfl, .ty _, .base (.lst hx), kit_ty (by decide +kernel), true, rfl, iteF ?_⟩
    refine ⟨_, rfl, a, xs, rfl, .inl (Evl.sq_of hx), _, rfl, _, _, rfl, rfl, false, bl_f (decide_eq_false (by omega)), iteF ?_⟩
    refine ⟨_, rfl, a, rfl, ⟨_, Evl.sq_of hx⟩, fun D hD => lcP (walk_list (xs := xs)) (fun _ => some (.bl true)) hD (by omega) (fun H e => Evl.ex_l e (Evl.sq_of hx)) (fun i x H1 H' Qy Qn hi e y k1 k2 => ?_) fun H' e h => ?_⟩
    · obtain ⟨rfl, hxi⟩ := y
      obtain ⟨r, n, sl, rfl, _, dx, hr1⟩ := hat i x hxi
      obtain ⟨u, hu⟩ := T.sg k
      refine ⟨rfl, iteT (B := Qn H') ?_⟩
      refine ⟨_, rfl, _, _, _, _, true, rfl, .own _, .base (.ins (e _ _ hr1) (T.cl k) (T.ii k).ha T.hn T.htk (T.ii k).hm), T.kR k, true, rfl, iteT ?_⟩
      refine ⟨_, rfl, r, C k, dx, _, _, u, rfl, e _ _ hr1, T.cl k, hu, recF_no n sl (by decide +kernel) (by decide +kernel), rfl, ?_⟩
      exact q_bl (by rw [sign_ne k]; rfl) (k1 _ _ (Evl.Ex.refl _) rfl)
    · exact rd_all h (q _ e)
abbrev sitems_of : Stmt := top 36
abbrev Nitems_of : List Str := ["log", "record"]
theorem scitems_of : FnScope Nitems_of ["log"] (defScope sitems_of) := ⟨rfl, rfl, rfl, by decide +kernel, rfl, by decide +kernel, by decide +kernel⟩
-- 0 log, 1 record
theorem cal_items_of (F : DF K mg "items_of" sitems_of ["log"]) (T : Txt K mg C CB RC) (c_item : ∀ k, Prp P w K mg base 1 (C k) "item" (spItem (C k))) : C8.Cal P w K mg base 3 "items_of" (spItemsOf C) [] := by
  refine F.cal scitems_of (fun vs H Q E h => ?_) (fun f cdv A outer s H vs Q E hr h => ?_)
  · obtain ⟨a, k, rows, rfl, _⟩ := h
    rfl
  · obtain ⟨a, k, rows, rfl, hB, hl, q⟩ := h
    obtain ⟨xs, hx, hxl, hat⟩ := hB.at
    refine ⟨_, (pss_one (ps_ret (pe_lc (own := [("record", 1)]) rfl scitems_of.nd (pi_list_k K (pv 0)) (blkOk_by (N := Nitems_of) (sc := defScope sitems_of) (own := [("record", 1)]) (by decide +kernel)) (fun _ _ _ _ _ => (pg_name (i := 1) scitems_of.nd rfl (Or.inl rfl))) (fun _ _ _ _ _ => pts_nil) (fun _ _ _ _ _ => (pe_pr (c_item k) (T.cl _) hr (by decide) (pv 1)))))), ?_⟩
    refine ⟨_, rfl, a, rfl, ⟨_, Evl.sq_of hx⟩, fun D hD => lcP (walk_list (xs := xs)) (fun i => (rows[i]?).map fun r => .str r.1) hD (by omega) (fun H e => Evl.ex_l e (Evl.sq_of hx)) (fun i x H1 H' Qy Qn hi e y k1 k2 => ?_) fun H' e h => ?_⟩
    · obtain ⟨rfl, hxi⟩ := y
      obtain ⟨r, n, sl, rfl, hrow, dx, hr1⟩ := hat i x hxi
      refine ⟨rfl, iteT (B := Qn H') ?_⟩
      refine ⟨_, rfl, r, dx, _, rfl, e _ _ hr1, r, dx, n, sl, rfl, e _ _ hr1, k1 _ _ (Evl.Ex.refl _) ?_⟩
      rw [hrow]; rfl
    · refine q D H' hD e ?_
      rw [h, hxl, List.map_map]
      exact congrArg (fun z => some (HO.lst z)) (range_get rows _ _ fun i x hx => by rw [hx]; rfl)
abbrev sis_log : Stmt := top 37
abbrev Nis_log : List Str := ["thing", "record"]
theorem scis_log : FnScope Nis_log ["thing"] (defScope sis_log) := ⟨rfl, rfl, rfl, by decide +kernel, rfl, by decide +kernel, by decide +kernel⟩
-- 0 thing, 1 record
theorem cal_is_log (F : DF K mg "is_log" sis_log ["thing"]) (T : Txt K mg C CB RC) (c_are_records : C8.Cal P w K mg base 1 "are_records" (spAreRecords C) []) (c_items_of : C8.Cal P w K mg base 3 "items_of" (spItemsOf C) []) : C8.Cal P w K mg base 4 "is_log" (spIsLog C) [] := by
  refine F.cal scis_log (fun vs H Q E h => ?_) (fun f cdv A outer s H vs Q E hr h => ?_)
  · obtain ⟨a, k, rows, rfl, _⟩ := h
    rfl
  · obtain ⟨a, k, rows, rfl, hB, hl, hnd, q⟩ := h
    refine ⟨_, (pss_cons (ps_if (pt_not (pt_val (C8.pe_c c_are_records hr (by decide) (by rfl) (pa_cons (pv 0) (pa_cons (C8.pe_gc (by rfl) T.vMOST_LOG) pa_nil))))) (pss_one (ps_ret pe_bl)) pss_nil)
      (pss_one (ps_ret (pe_and (pe_cmpR op_le (pe_lenSetS (by rfl) T.len_ (by rfl) T.set_ (pe_lc (own := [("record", 1)]) rfl scis_log.nd (pi_list_k K (pv 0)) (blkOk_by (N := Nis_log) (sc := defScope sis_log) (own := [("record", 1)]) (by decide +kernel)) (fun _ _ _ _ _ => (pg_name (i := 1) scis_log.nd rfl (Or.inl rfl))) (fun _ _ _ _ _ => pts_nil) (fun _ _ _ _ _ => (pe_con_k K (pv 1) rfl)))) pe_int (nomark _)) (pe_one (pe_cmpR op_eq (pe_lenSetS (by rfl) T.len_ (by rfl) T.set_ (C8.pe_c c_items_of hr (by decide) (by rfl) (pa_cons (pv 0) pa_nil))) (pe_callB (call_len_k K) (by rfl) T.len_ (by decide +kernel) (pa_cons (pv 0) pa_nil)) (nomark _))))))), ?_⟩
    refine ⟨_, rfl, a, k, rows, rfl, hB, hl, fun H1 e1 => ⟨true, rfl, iteF ?_⟩⟩
    have hB1 := hB.ex e1
    obtain ⟨xs, hx, hxl, hat⟩ := hB1.at
    refine ⟨_, rfl, a, rfl, ⟨_, Evl.sq_of hx⟩, fun D hD => lcP (walk_list (xs := xs)) (fun _ => some (.str k.sign)) hD (by omega) (fun H e => Evl.ex_l e (Evl.sq_of hx)) (fun i x H1 H' Qy Qn hi e y k1 k2 => ?_) fun H2 e2 h2 => ?_⟩
    · obtain ⟨rfl, hxi⟩ := y
      obtain ⟨r, n, sl, rfl, _, dx, hr1⟩ := hat i x hxi
      obtain ⟨u, hu⟩ := T.sg k
      refine ⟨rfl, iteT (B := Qn H') ?_⟩
      exact ⟨_, rfl, r, C k, dx, _, _, u, rfl, e _ _ hr1, T.cl k, hu, recF_no n sl (by decide +kernel) (by decide +kernel), k1 _ _ (Evl.Ex.refl _) rfl⟩
    · have eS : (List.range xs.length).filterMap (fun _ => some (V.str k.sign)) = ((List.range xs.length).map fun _ => k.sign).map V.str := fm_map xs.length (fun _ => k.sign) V.str
      have d1 := dif_same (xs := (List.range xs.length).map fun _ => k.sign) (a := k.sign) (fun x hx => by obtain ⟨_, _, e⟩ := List.mem_map.mp hx; exact e.symm) _ (Nat.le_refl _)
      refine ⟨D, (List.range xs.length).map (fun _ => k.sign), rfl, Evl.sq_of (by rw [h2, eS]), by simp; omega, _, _, rfl, rfl, true, bl_t (decide_eq_true (by omega)), iteT ?_⟩
      have hB2 := hB1.ex e2
      refine ⟨_, rfl, a, k, rows, rfl, hB2, hl, fun p H3 hp e3 h3 => ?_⟩
      refine ⟨p, rows.map (·.1), rfl, Evl.sq_of h3, by simp; omega, _, rfl, a, xs, rfl, .inl (Evl.sq_of (e3 _ _ (e2 _ _ hx))), rfl, ?_⟩
      rw [dif_nodup hnd _ (Nat.le_refl _), List.take_length, List.length_map, ← hxl]
      exact q_bl (decide_eq_true rfl) (q _ ((e1.trans e2).trans e3))
abbrev sneed_log : Stmt := top 38
abbrev Nneed_log : List Str := ["thing"]
theorem scneed_log : FnScope Nneed_log ["thing"] (defScope sneed_log) := ⟨rfl, rfl, rfl, by decide +kernel, rfl, by decide +kernel, by decide +kernel⟩
-- 0 thing
theorem cal_need_log (F : DF K mg "need_log" sneed_log ["thing"]) (T : Txt K mg C CB RC) (c_is_log : C8.Cal P w K mg base 4 "is_log" (spIsLog C) []) : C8.Cal P w K mg base 5 "need_log" (spNeedLog C) [] := by
  refine F.cal scneed_log (fun vs H Q E h => ?_) (fun f cdv A outer s H vs Q E hr h => ?_)
  · obtain ⟨a, k, rows, rfl, _⟩ := h
    rfl
  · obtain ⟨a, k, rows, rfl, hB, hl, hnd, q⟩ := h
    refine ⟨_, (pss_one (ps_if (pt_not (pt_val (C8.pe_c c_is_log hr (by decide) (by rfl) (pa_cons (pv 0) pa_nil)))) (pss_one ps_never) pss_nil)), ?_⟩
    exact ⟨_, rfl, a, k, rows, rfl, hB, hl, hnd, fun H1 e1 => ⟨true, rfl, iteF (q _ e1)⟩⟩
theorem itms_get {g : Gv Str} {n : Str} (h : n ∈ itms g) : some n ∈ g := by
  obtain ⟨o, ho, e⟩ := List.mem_filterMap.mp h
  have e : o = some n := e
  rw [← e]; exact ho
theorem itms_len (g : Gv Str) : (itms g).length ≤ g.length := List.length_filterMap_le _ _
/-- the entries that are items -/
theorem itms_comp (g : Gv Str) : (List.range (g.map vo).length).filterMap (fun i => (g.map vo)[i]?.bind fun v => if v = .non then none else some v) = (itms g).map V.str := by
  rw [range_filter (g.map vo) _ (fun v => if v = .non then none else some v) fun i x hx => by rw [hx]; rfl]
  rw [List.filterMap_map]
  unfold itms
  rw [List.map_filterMap]
  refine fmap_eq fun o _ => ?_
  cases o with
  | none => rfl
  | some s => rfl
theorem inV_strs {n : Str} {l : List Str} (h : n ∈ l) : inV (.str n) (l.map V.str) = true := by
  unfold inV
  rw [List.any_map, List.any_eq_true]
  exact ⟨n, h, by show eqV (.str n) (.str n) = true; simp [eqV]⟩
theorem flat_strs (l : List Str) : (l.map V.str).all flatV = true := by
  rw [List.all_map, List.all_eq_true]
  intro x _; rfl
abbrev sneed_seen : Stmt := top 43
abbrev Nneed_seen : List Str := ["log", "seen", "names", "known", "entry", "record", "name"]
theorem scneed_seen : FnScope Nneed_seen ["log", "seen"] (defScope sneed_seen) := ⟨rfl, rfl, rfl, by decide +kernel, rfl, by decide +kernel, by decide +kernel⟩
-- 0 log, 1 seen, 2 names, 3 known*, 4 entry, 5 record, 6 name
theorem cal_need_seen (F : DF K mg "need_seen" sneed_seen ["log", "seen"]) (T : Txt K mg C CB RC) (c_item : ∀ k, Prp P w K mg base 1 (C k) "item" (spItem (C k))) : C8.Cal P w K mg base 3 "need_seen" (spNeedSeen C) [] := by
  refine F.cal scneed_seen (fun vs H Q E h => ?_) (fun f cdv A outer s H vs Q E hr h => ?_)
  · obtain ⟨a, b, k, rows, g, rfl, _⟩ := h
    rfl
  · obtain ⟨a, b, k, rows, g, rfl, hB, hl, hb, ok, q⟩ := h
    obtain ⟨xs, hx, hxl, hat⟩ := hB.at
    refine ⟨_, (pss_cons (ps_if (pt_cmpR op_isN (pv 1) pe_non (nomark _)) (pss_one ps_retN) pss_nil)
      (pss_cons (ps_if (PW.pt (pw_or (pt_not (pt_val (pe_callB (call_isi_k K) (by rfl) T.isinstance_ (by decide +kernel) (pa_cons (pv 1) (pa_cons (pe_bltn (v := .ty "list") (by rfl) T.list_ (by decide +kernel) rfl) pa_nil))))) (pw_or1 (pt_cmpR op_ne (pe_callB (call_len_k K) (by rfl) T.len_ (by decide +kernel) (pa_cons (pv 1) pa_nil)) (pe_callB (call_len_k K) (by rfl) T.len_ (by decide +kernel) (pa_cons (pv 0) pa_nil)) (nomark _))))) (pss_one ps_never) pss_nil)
      (pss_cons (ps_setLc (i := 2) (own := [("entry", 4)]) rfl scneed_seen.nd rfl rfl (sw_true rfl rfl rfl (by decide +kernel)) (pi_list_k K (pv 1)) (blkOk_by (N := Nneed_seen) (sc := defScope sneed_seen) (own := [("entry", 4)]) (by decide +kernel)) (fun _ _ _ _ _ => (pg_name (i := 4) scneed_seen.nd rfl (Or.inl rfl))) (fun _ _ _ _ _ => (pts_one (pt_cmpR op_notN (pv 4) pe_non (nomark _)))) (fun _ _ _ _ _ => (pv 4)))
      (pss_cons (ps_if (PW.pt (pw_or (pt_not (pt_val (pe_callB (cr_all_k K rfl) (by rfl) T.all_ (by decide +kernel) (pa_cons (pe_lc (own := [("name", 6)]) rfl scneed_seen.nd (pi_list_k K (pv 2)) (blkOk_by (N := Nneed_seen) (sc := defScope sneed_seen) (own := [("name", 6)]) (by decide +kernel)) (fun _ _ _ _ _ => (pg_name (i := 6) scneed_seen.nd rfl (Or.inl rfl))) (fun _ _ _ _ _ => pts_nil) (fun _ _ _ _ _ => (pe_callB (call_isi_k K) (by rfl) T.isinstance_ (by decide +kernel) (pa_cons (pv 6) (pa_cons (pe_bltn (v := .ty "str") (by rfl) T.str_ (by decide +kernel) rfl) pa_nil))))) pa_nil)))) (pw_or1 (pt_cmpR op_lt (pe_lenSetS (by rfl) T.len_ (by rfl) T.set_ (pv 2)) (pe_callB (call_len_k K) (by rfl) T.len_ (by decide +kernel) (pa_cons (pv 2) pa_nil)) (nomark _))))) (pss_one ps_never) pss_nil)
      (pss_cons (ps_set (i := 3) scneed_seen.nd rfl (Or.inr rfl) (pe_lc (own := [("record", 5)]) rfl scneed_seen.nd (pi_list_k K (pv 0)) (blkOk_by (N := Nneed_seen) (sc := defScope sneed_seen) (own := [("record", 5)]) (by decide +kernel)) (fun _ _ _ _ _ => (pg_name (i := 5) scneed_seen.nd rfl (Or.inl rfl))) (fun _ _ _ _ _ => pts_nil) (fun _ _ _ _ _ => (pe_pr (c_item k) (T.cl _) hr (by decide) (pv 5)))))
      (pss_one (ps_if (pt_not (pt_val (pe_callB (cr_all_k K rfl) (by rfl) T.all_ (by decide +kernel) (pa_cons (pe_lc (own := [("name", 6)]) rfl scneed_seen.nd (pi_list_k K (pv 2)) (blkOk_by (N := Nneed_seen) (sc := defScope sneed_seen) (own := [("name", 6)]) (by decide +kernel)) (fun _ _ _ _ _ => (pg_name (i := 6) scneed_seen.nd rfl (Or.inl rfl))) (fun _ _ _ _ _ => pts_nil) (fun _ _ _ _ _ => (pe_cmpR (op_in_seq_k K) (pv 6) (pv 3) (by rfl)))) pa_nil)))) (pss_one ps_never) pss_nil))))))), ?_⟩
    refine ⟨_, rfl, rfl, false, rfl, iteF ?_⟩
    refine ⟨_, rfl, _, _, _, _, true, rfl, .ty _, .base (.lst hb), kit_ty (by decide +kernel), true, rfl, iteF ?_⟩
    refine ⟨_, rfl, b, _, rfl, .inl (Evl.sq_of hb), _, rfl, a, xs, rfl, .inl (Evl.sq_of hx), rfl, false, bl_f (by rw [List.length_map, ok.len, hxl]; simp), iteF ?_⟩
    -- names
    refine ⟨_, rfl, b, rfl, ⟨_, Evl.sq_of hb⟩, fun D hD => lcP (walk_list (xs := g.map vo)) (fun i => (g.map vo)[i]?.bind fun v => if v = .non then none else some v) hD (by rw [List.length_map, ok.len]; omega) (fun H e => Evl.ex_l e (Evl.sq_of hb)) (fun i x H1 H' Qy Qn hi e y k1 k2 => ?_) fun H1 e1 h1 => ?_⟩
    · obtain ⟨rfl, hxi⟩ := y
      refine ⟨rfl, _, rfl, rfl, _, rfl, ?_⟩
      by_cases z : x = .non
      · subst z
        exact iteF (k2 _ (Evl.Ex.refl _) (by rw [hxi]; rfl))
      · have e0 : (!decide (x = V.non)) = true := by simp [z]
        show if (!decide (x = V.non)) = true then _ else _
        rw [if_pos e0]
        exact ⟨_, rfl, k1 _ _ (Evl.Ex.refl _) (by rw [hxi]; show (if x = V.non then none else some x) = some x; rw [if_neg z])⟩
    rw [itms_comp] at h1
    have hil : (itms g).length ≤ 40 := Nat.le_trans (itms_len g) (by rw [ok.len]; exact hl)
    -- every name is a text
    refine ⟨_, rfl, D, rfl, ⟨_, Evl.sq_of h1⟩, fun D2 hD2 => lcP (walk_list (xs := (itms g).map V.str)) (fun _ => some (.bl true)) hD2 (by simp; omega) (fun H e => Evl.ex_l e (Evl.sq_of h1)) (fun i x H1 H' Qy Qn hi e y k1 k2 => ?_) fun H2 e2 h2 => ?_⟩
    · obtain ⟨rfl, hxi⟩ := y
      refine ⟨rfl, iteT (B := Qn H') ?_⟩
      rw [List.getElem?_map] at hxi
      obtain ⟨n, _, rfl⟩ := Option.map_eq_some_iff.mp hxi
      exact ⟨_, rfl, _, _, _, _, true, rfl, .ty _, .base (.str _), kit_ty (by decide +kernel), k1 _ _ (Evl.Ex.refl _) rfl⟩
    try unfold tNil
    refine rd_all h2 ?_
    refine ⟨true, rfl, iteF ?_⟩
    have hD1 : H2 D = some (.lst ((itms g).map V.str)) := e2 _ _ h1
    refine ⟨_, rfl, D, itms g, rfl, Evl.sq_of hD1, by omega, _, rfl, D, _, rfl, .inl (Evl.sq_of hD1), _, _, rfl, rfl, false, ?_, iteF ?_⟩
    · rw [dif_nodup ok.one _ (Nat.le_refl _), List.take_length, List.length_map]
      exact bl_f (decide_eq_false (by omega))
    -- known
    have hx2 : H2 a = some (.lst xs) := e2 _ _ (e1 _ _ hx)
    refine ⟨_, rfl, a, rfl, ⟨_, Evl.sq_of hx2⟩, fun D3 hD3 => lcP (walk_list (xs := xs)) (fun i => (rows[i]?).map fun r => .str r.1) hD3 (by omega) (fun H e => Evl.ex_l e (Evl.sq_of hx2)) (fun i x H1 H' Qy Qn hi e y k1 k2 => ?_) fun H3 e3 h3 => ?_⟩
    · obtain ⟨rfl, hxi⟩ := y
      obtain ⟨r, n, sl, rfl, hrow, dx, hr1⟩ := hat i x hxi
      refine ⟨rfl, iteT (B := Qn H') ?_⟩
      have hr2 := ((e1.trans e2).trans e) _ _ hr1
      refine ⟨_, rfl, r, dx, _, rfl, hr2, r, dx, n, sl, rfl, hr2, k1 _ _ (Evl.Ex.refl _) ?_⟩
      rw [hrow]; rfl
    have eR : (List.range xs.length).filterMap (fun i => (rows[i]?).map fun r => V.str r.1) = (rows.map (·.1)).map V.str := by
      rw [hxl, List.map_map]
      exact range_get rows _ _ fun i x hx => by rw [hx]; rfl
    rw [eR] at h3
    have hD2 : H3 D = some (.lst ((itms g).map V.str)) := e3 _ _ hD1
    refine ⟨_, rfl, D, rfl, ⟨_, Evl.sq_of hD2⟩, fun D4 hD4 => lcP (walk_list (xs := (itms g).map V.str)) (fun _ => some (.bl true)) hD4 (by simp; omega) (fun H e => Evl.ex_l e (Evl.sq_of hD2)) (fun i x H1 H' Qy Qn hi e y k1 k2 => ?_) fun H4 e4 h4 => ?_⟩
    · obtain ⟨rfl, hxi⟩ := y
      refine ⟨rfl, iteT (B := Qn H') ?_⟩
      rw [List.getElem?_map] at hxi
      obtain ⟨n, hn, rfl⟩ := Option.map_eq_some_iff.mp hxi
      have hmem := ok.mem n (itms_get (List.mem_of_getElem? hn))
      refine ⟨_, rfl, _, rfl, D3, _, rfl, .inl (Evl.sq_of (e _ _ h3)), rfl, flat_strs _, k1 _ _ (Evl.Ex.refl _) ?_⟩
      rw [if_neg Bool.false_ne_true, inV_strs hmem]
    try unfold tNil
    refine rd_all h4 ?_
    exact ⟨true, rfl, iteF (q _ (((e1.trans e2).trans e3).trans e4))⟩
end
end K21
/-! ## S1 -/
set_option maxHeartbeats 4000000
set_option linter.all false
/-! The order of texts. -/
namespace K21
open PySem PySem.Spec PyProof.Rows L2
def ltS (a b : Str) : Bool := decide (a.cps.toList < b.cps.toList)
abbrev LtS (a b : Str) : Prop := ltS a b = true
theorem ltS_iff {a b : Str} : ltS a b = true ↔ a.cps.toList < b.cps.toList := by unfold ltS; exact decide_eq_true_iff
theorem ltS_irr (a : Str) : ltS a a = false := by unfold ltS; exact decide_eq_false (List.lt_irrefl _)
theorem ltS_trans {a b c : Str} (h : LtS a b) (k : LtS b c) : LtS a c := ltS_iff.mpr (List.lt_trans (ltS_iff.mp h) (ltS_iff.mp k))
theorem ltS_anti {a b : Str} (h : ltS a b = false) (k : ltS b a = false) : a = b := by
  have h1 : ¬ a.cps.toList < b.cps.toList := by unfold ltS at h; exact of_decide_eq_false h
  have h2 : ¬ b.cps.toList < a.cps.toList := by unfold ltS at k; exact of_decide_eq_false k
  have e := List.le_antisymm h2 h1
  have e2 : a.cps = b.cps := Array.toList_inj.mp e
  cases a; cases b; simp only at e2; rw [e2]
theorem ltS_asym {a b : Str} (h : LtS a b) : ltS b a = false := by
  cases k : ltS b a with
  | false => rfl
  | true => have := ltS_trans h k; rw [LtS, ltS_irr] at this; cases this
theorem leS_trans {a b c : Str} (h : ltS b a = false) (k : ltS c b = false) : ltS c a = false := by
  cases e : ltS c a with
  | false => rfl
  | true =>
    cases e2 : ltS a b with
    | true => have := ltS_trans e e2; rw [LtS, k] at this; cases this
    | false =>
      have := ltS_anti e2 h
      subst this
      rw [k] at e; cases e
theorem rising_pw : ∀ (p : Str) (l : List Str), risingS p l = true → (p :: l).Pairwise fun a b => ltS b a = false
  | p, [], _ => by simp
  | p, x :: r, h => by
    have h : (!ltCps x.cps.toList p.cps.toList && risingS x r) = true := h
    rw [Bool.and_eq_true, Bool.not_eq_true', ltCps_eq] at h
    have ih := rising_pw x r h.2
    refine List.pairwise_cons.mpr ⟨fun y hy => ?_, ih⟩
    have hx : ltS x p = false := h.1
    rcases List.mem_cons.mp hy with z | z
    · rw [z]; exact hx
    · exact leS_trans hx ((List.pairwise_cons.mp ih).1 y z)
theorem sortedS_pw {l : List Str} (h : sortedS l = true) : l.Pairwise fun a b => ltS b a = false := by
  cases l with
  | nil => exact .nil
  | cons x r => exact rising_pw x r h
/-- the one ascending list -/
theorem sorted_the {ys ns : List Str} (h : sortedS ys = true) (hp : ys.Perm ns) (hs : ns.Pairwise LtS) : ys = ns :=
  List.Perm.eq_of_pairwise (le := fun a b => ltS b a = false) (fun a b _ _ h k => ltS_anti k h) (sortedS_pw h) (hs.imp fun h => ltS_asym h) hp
theorem asc_nodup {ns : List Str} (h : ns.Pairwise LtS) : ns.Nodup := h.imp fun {a b} hab e => by
  rw [e, LtS, ltS_irr] at hab; cases hab
theorem lex_irr (x : Gv Str) : ¬ LexLt LtS x x := by
  rintro ⟨i, a, b, _, h1, h2, h3⟩
  rw [h1] at h2
  have : a = b := by simpa using h2
  rw [this, LtS, ltS_irr] at h3; cases h3
/-- there is an ascending list of any texts, each once -/
theorem asc_exists (l : List Str) (h : l.Nodup) : ∃ ns : List Str, l.Perm ns ∧ ns.Pairwise LtS := by
  refine ⟨l.mergeSort fun a b => !ltS b a, (List.mergeSort_perm _ _).symm, ?_⟩
  have h1 : (l.mergeSort fun a b => !ltS b a).Pairwise fun a b => (!ltS b a) = true :=
    List.pairwise_mergeSort (le := fun a b => !ltS b a) (fun a b c hab hbc => by
      have hab : ltS b a = false := by simpa using hab
      have hbc : ltS c b = false := by simpa using hbc
      simp [leS_trans hab hbc]) (fun a b => by
      cases e : ltS b a with
      | false => simp
      | true => simp [ltS_asym e]) l
  have h2 : (l.mergeSort fun a b => !ltS b a).Nodup := (List.mergeSort_perm _ _).nodup_iff.mpr h
  refine (h1.and h2).imp fun {a b} hab => ?_
  obtain ⟨q1, q2⟩ := hab
  cases e : ltS a b with
  | true => exact e
  | false => exact absurd (ltS_anti e (by simpa using q1)) q2
end K21
/-! ## W4 -/
set_option Elab.async false
set_option linter.all false
set_option maxRecDepth 100000
set_option maxHeartbeats 4000000
/-! Boards. -/
namespace K21
open PySem PySem.Spec PyProof.Rows L2
/-! ### dict comprehensions -/
section
variable {J : It} {n : Nat} {G : Hp → Prop} {Y : Nat → Hp → V → Hp → Prop} {g : TG} {tt : TT} {tk tv : TE} {vs : List Nat} {σ : L2.St} {H0 : Hp} {D : Addr} {Qd : Hp → Prop}
theorem dcP (w : Walk J n G Y) (f : Nat → Key × V) (hf : ∀ i j, i < n → j < n → (f i).1 = (f j).1 → i = j) (hD : H0 D = none) (hn : n ≤ 100000) (hG : ∀ H, Ex H0 H → G H)
    (hs : ∀ i x H H' (Qz : V → V → Hp → Prop) (Qn : Hp → Prop), i < n → Ex H0 H → Y i H x H' → (∀ y z H5, Ex H H5 → y = kV (f i).1 → z = (f i).2 → Qz y z H5) →
      g x (wipe σ vs) H' fun σ2 H2 => wipe σ2 vs = wipe σ vs ∧ tt σ2 H2 fun b H3 => if b = true then tk σ2 H3 fun y H4 => tv σ2 H4 fun z H5 => Qz y z H5 else Qn H3)
    (hd : ∀ H', Ex H0 H' → H' D = some (.dK ((List.range n).map f)) → Qd H') :
    ∃ W : Nat → Nat → Hp → Prop, (∃ m, W 0 m (upd H0 D (.dK []))) ∧ ∀ i m H, W i m H →
      (J.stop i H ∧ Qd H) ∨ (J.go i H ∧ ∃ Nx : Hp → Prop, (∀ H', Nx H' → ∃ m', m' < m ∧ W (i + 1) m' H') ∧ ∀ x H', J.yld i H x H' → g x (wipe σ vs) H' fun σ2 H2 => wipe σ2 vs = wipe σ vs ∧ tt σ2 H2 fun b H3 =>
        if b = true then tk σ2 H3 fun y H4 => tv σ2 H4 fun z H5 => ∃ kvs k, y = kV k ∧ H5 D = some (.dK kvs) ∧ kvs.length < sizeLine ∧ Nx (upd H5 D (.dK (putK kvs k z))) else Nx H3) := by
  refine ⟨fun i m H => m = n - i ∧ i ≤ n ∧ Ex H0 H ∧ H D = some (.dK ((List.range i).map f)), ⟨n, by simp, Nat.zero_le _, Evl.Ex.new hD, upd_same⟩, ?_⟩
  rintro i m H ⟨rfl, hi, p1, p2⟩
  have q := hG H p1
  by_cases hlt : i < n
  · refine .inr ⟨w.goes i H hlt q, fun H' => Ex H0 H' ∧ H' D = some (.dK ((List.range (i + 1)).map f)), fun H' p' => ⟨n - (i + 1), by omega, rfl, hlt, p'⟩, fun x H' y => ?_⟩
    refine hs i x H H' (fun y z H5 => ∃ kvs k, y = kV k ∧ H5 D = some (.dK kvs) ∧ kvs.length < sizeLine ∧ (Ex H0 (upd H5 D (.dK (putK kvs k z))) ∧ (upd H5 D (.dK (putK kvs k z))) D = some (.dK ((List.range (i + 1)).map f)))) _ hlt p1 (w.yields i H x H' hlt q y) fun y z H5 e5 ey ez => ?_
    refine ⟨(List.range i).map f, (f i).1, ey, e5 _ _ p2, ?_, Evl.Ex.mut (p1.trans e5) hD, ?_⟩
    · simp only [List.length_map, List.length_range]
      exact Nat.lt_of_lt_of_le hlt (Nat.le_trans hn (by decide))
    · rw [upd_same, putK_new, List.range_succ, List.map_append, ez]
      · rfl
      · unfold valV
        have : (List.map f (List.range i)).find? (fun kv => decide (kv.1 = (f i).1)) = none := by
          rw [List.find?_eq_none]
          intro kv hkv
          obtain ⟨j, hj, ej⟩ := List.mem_map.mp hkv
          have hj := List.mem_range.mp hj
          rw [← ej]
          simp only [decide_eq_true_eq]
          intro z
          have := hf j i (by omega) hlt z
          omega
        rw [this]; rfl
  · have e : i = n := by omega
    subst e
    exact .inl ⟨w.stops H q, hd H p1 p2⟩
end
theorem fm_filter {β : Type} (l : List β) (p : β → Prop) [DecidablePred p] (g : β → V) : l.filterMap (fun n => if p n then some (g n) else none) = (l.filter fun n => decide (p n)).map g := by
  induction l with
  | nil => rfl
  | cons m r ih =>
    rw [List.filterMap_cons, List.filter_cons]
    by_cases c : p m
    · rw [if_pos c, decide_eq_true c, if_pos rfl, List.map_cons, ih]
    · rw [if_neg c, decide_eq_false c, if_neg Bool.false_ne_true, ih]
/-! ### boards -/
def bdF (n : Int) (t : Bool) (d g : Addr) : List (Str × V) := [("size", .int n), ("is_turned", .bl t), ("floors", .ref d), ("given", .ref g)]
theorem bd_size (n : Int) (t : Bool) (d g : Addr) : (bdF n t d g).lookup ("size" : Str) = some (V.int n) := rfl
theorem ne1 : (("is_turned" : Str) == ("size" : Str)) = false := by decide +kernel
theorem ne2 : (("floors" : Str) == ("size" : Str)) = false := by decide +kernel
theorem ne3 : (("floors" : Str) == ("is_turned" : Str)) = false := by decide +kernel
theorem ne4 : (("given" : Str) == ("size" : Str)) = false := by decide +kernel
theorem ne5 : (("given" : Str) == ("is_turned" : Str)) = false := by decide +kernel
theorem ne6 : (("given" : Str) == ("floors" : Str)) = false := by decide +kernel
theorem bd_turned (n : Int) (t : Bool) (d g : Addr) : (bdF n t d g).lookup ("is_turned" : Str) = some (V.bl t) := by
  unfold bdF; rw [List.lookup_cons, ne1]; rfl
theorem bd_floors (n : Int) (t : Bool) (d g : Addr) : (bdF n t d g).lookup ("floors" : Str) = some (V.ref d) := by
  unfold bdF; rw [List.lookup_cons, ne2]; dsimp only; rw [List.lookup_cons, ne3]; rfl
theorem bd_given (n : Int) (t : Bool) (d g : Addr) : (bdF n t d g).lookup ("given" : Str) = some (V.ref g) := by
  unfold bdF; rw [List.lookup_cons, ne4]; dsimp only; rw [List.lookup_cons, ne5]; dsimp only; rw [List.lookup_cons, ne6]; rfl
theorem bd_no (n : Int) (t : Bool) (d g : Addr) {m : Str} (h1 : (m == ("size" : Str)) = false) (h2 : (m == ("is_turned" : Str)) = false) (h3 : (m == ("floors" : Str)) = false) (h4 : (m == ("given" : Str)) = false) : (bdF n t d g).lookup m = none := by
  unfold bdF; rw [List.lookup_cons, h1]; dsimp only; rw [List.lookup_cons, h2]; dsimp only; rw [List.lookup_cons, h3]; dsimp only; rw [List.lookup_cons, h4]; rfl
/-- the floors as a dict's pairs, in some sequence -/
def flK (B : Bd Str) (l : List Str) : List (Key × V) := l.map fun n => (Sum.inr n, V.int (B.fl n))
/-- a board stands at p: B its data, g what is given -/
structure BoardAt (CB : Addr) (H : Hp) (p : Addr) (B : Bd Str) (g : Gv Str) : Prop where
  ex : ∃ (dx d gl : Addr) (l : List Str), H p = some (.ins CB dx (bdF B.ns.length B.tn d gl)) ∧ H d = some (.dK (flK B l)) ∧ l.Perm B.ns ∧ H gl = some (.lst (g.map vo))
  asc : B.ns.Pairwise LtS
  few : B.ns.length ≤ 40
  ok : Gok B.ns g
  its : ∀ n ∈ B.ns, okItem n
theorem BoardAt.mono {CB : Addr} {H H' : Hp} {p : Addr} {B : Bd Str} {g : Gv Str} (h : BoardAt CB H p B g) (e : Ex H H') : BoardAt CB H' p B g := by
  obtain ⟨dx, d, gl, l, h1, h2, h3, h4⟩ := h.ex
  exact ⟨⟨dx, d, gl, l, e _ _ h1, e _ _ h2, h3, e _ _ h4⟩, h.asc, h.few, h.ok, h.its⟩
theorem lock_ex {H H' : Hp} {d : Addr} {u x : HO} (hd : H d = some u) (e : Ex (upd H d x) H') : Ex H (upd H' d u) := fun b o q => by
  by_cases h : b = d
  · rw [h] at q ⊢
    rw [upd_same]
    rw [hd] at q; exact q
  · rw [upd_ne h]
    exact e b o (by rw [upd_ne h]; exact q)
theorem valV_fl (B : Bd Str) {l : List Str} {n : Str} (h : n ∈ l) : valV (flK B l) (Sum.inr n) = some (.int (B.fl n)) := by
  induction l with
  | nil => cases h
  | cons m r ih =>
    show valV ((Sum.inr m, V.int (B.fl m)) :: flK B r) (Sum.inr n) = _
    by_cases e : m = n
    · subst e
      exact valV_pos (p := ((Sum.inr m : Key), V.int (B.fl m))) rfl
    · rw [valV_neg (p := ((Sum.inr m : Key), V.int (B.fl m))) (fun z => e (Sum.inr.inj z))]
      rcases List.mem_cons.mp h with z | z
      · exact absurd z.symm e
      · exact ih z
def spTurned (CB : Addr) : Sp := fun vs H Q _ => ∃ (p dx : Addr) (fs : List (Str × V)) (n pos : Int) (t : Bool), vs = [.ref p, .int pos] ∧ H p = some (.ins CB dx fs) ∧ fs.lookup ("size" : Str) = some (.int n) ∧ fs.lookup ("is_turned" : Str) = some (.bl t) ∧ Q (.int (if t = true then n - 1 - pos else pos)) H
def spFar (CB : Addr) : Sp := fun vs H Q _ => ∃ (p : Addr) (B : Bd Str) (g : Gv Str), vs = [.ref p] ∧ BoardAt CB H p B g ∧ ∀ q H' xs, H q = none → Ex H H' → H' q = some (.lst (xs.map V.str)) → xs.length ≤ 40 → (xs = [] ↔ farB B = false) → Q (.ref q) H'
def spWrong (CB : Addr) : Sp := fun vs H Q _ => ∃ (p a : Addr) (B : Bd Str) (g g' : Gv Str), vs = [.ref p, .ref a] ∧ BoardAt CB H p B g ∧ H a = some (.lst (g'.map vo)) ∧ Gok B.ns g' ∧
  ∀ q H' (xs : List Nat), H q = none → Ex H H' → H' q = some (.lst (xs.map fun i => V.int (i : Nat))) → (∀ i ∈ xs, i < g'.length) → (xs = [] ↔ wrongB B.fl (pl B.tn g') = false) → Q (.ref q) H'
def spFree (CB : Addr) : Sp := fun vs H Q _ => ∃ (p a : Addr) (B : Bd Str) (g g' : Gv Str), vs = [.ref p, .ref a] ∧ BoardAt CB H p B g ∧ H a = some (.lst (g'.map vo)) ∧ Gok B.ns g' ∧
  ∀ q H', H q = none → Ex H H' → H' q = some (.lst ((free (pl B.tn g')).map fun i => V.int (i : Nat))) → Q (.ref q) H'
def spWaiting (CB : Addr) : Sp := fun vs H Q _ => ∃ (p a : Addr) (B : Bd Str) (g g' : Gv Str), vs = [.ref p, .ref a] ∧ BoardAt CB H p B g ∧ H a = some (.lst (g'.map vo)) ∧ Gok B.ns g' ∧
  ∀ q H' (ws : List Int), H q = none → Ex H H' → H' q = some (.lst (ws.map V.int)) → ws.Pairwise (· ≤ ·) → ws.Perm ((wait B.ns g').map B.fl) → Q (.ref q) H'
/-- no attribute bears a method's name -/
theorem bd_m (n : Int) (t : Bool) (d g : Addr) : ∀ m ∈ (["turned", "far_items", "wrong_positions", "free_places", "waiting_bounds", "spares"] : List Str), (bdF n t d g).lookup m = none := by
  intro m hm
  refine bd_no _ _ _ _ ?_ ?_ ?_ ?_ <;>
  · rcases List.mem_cons.mp hm with rfl | hm
    · decide +kernel
    rcases List.mem_cons.mp hm with rfl | hm
    · decide +kernel
    rcases List.mem_cons.mp hm with rfl | hm
    · decide +kernel
    rcases List.mem_cons.mp hm with rfl | hm
    · decide +kernel
    rcases List.mem_cons.mp hm with rfl | hm
    · decide +kernel
    rcases List.mem_cons.mp hm with rfl | hm
    · decide +kernel
    cases hm
/-- a position's place, as an int -/
def tI (t : Bool) (n : Nat) (k : Nat) : Int := if t = true then (n : Int) - 1 - (k : Nat) else (k : Nat)
theorem tI_tnd {t : Bool} {n k : Nat} (h : k < n) : tI t n k = ((tnd t n k : Nat) : Int) := by
  unfold tI tnd
  cases t
  · rfl
  · simp only [if_true]; omega
theorem get_vo {g : Gv Str} {i : Nat} {x : V} (h : (g.map vo)[i]? = some x) : ∃ o, g[i]? = some o ∧ x = vo o := by
  rw [List.getElem?_map] at h
  obtain ⟨o, ho, e⟩ := Option.map_eq_some_iff.mp h
  exact ⟨o, ho, e.symm⟩
theorem inV_vo {n : Str} {g : Gv Str} : inV (.str n) (g.map vo) = decide (some n ∈ g) := by
  unfold inV
  rw [List.any_map]
  have e : ∀ o : Option Str, eqV (vo o) (.str n) = decide (o = some n) := by
    intro o
    cases o with
    | none => rfl
    | some m =>
      show (m == n) = decide (some m = some n)
      by_cases z : m = n
      · subst z; simp
      · have : (m == n) = false := beq_eq_false_iff_ne.mpr z
        rw [this]; simp [z]
  induction g with
  | nil => rfl
  | cons o r ih =>
    rw [List.any_cons, ih]
    show (eqV (vo o) (.str n) || decide (some n ∈ r)) = _
    rw [e]
    by_cases z : o = some n
    · subst z; simp
    · have z2 : ¬ some n = o := fun q => z q.symm
      simp [z, z2]
theorem flat_vo (g : Gv Str) : (g.map vo).all flatV = true := by
  rw [List.all_map, List.all_eq_true]
  intro x _; cases x <;> rfl
/-- where the item stands wrong -/
def badAt (B : Bd Str) (g : Gv Str) (k : Nat) : Bool := match g[k]? with
  | some (some n) => decide (tI B.tn B.ns.length k < B.fl n)
  | _ => false
theorem bad_wrong {B : Bd Str} {g : Gv Str} (h : g.length = B.ns.length) : (List.range g.length).filter (badAt B g) = [] ↔ wrongB B.fl (pl B.tn g) = false := by
  rw [List.filter_eq_nil_iff, wrongB_false]
  constructor
  · intro z i n hi
    have li : i < g.length := by have := (List.getElem?_eq_some_iff.mp hi).1; rwa [pl_len] at this
    have li2 : tnd B.tn g.length i < g.length := by unfold tnd; split <;> omega
    have e1 : tnd B.tn g.length (tnd B.tn g.length i) = i := by unfold tnd; split <;> omega
    have e2 := pl_get B.tn g li2
    rw [e1, hi] at e2
    have := z (tnd B.tn g.length i) (List.mem_range.mpr li2)
    unfold badAt at this
    rw [← e2] at this
    simp only [decide_eq_true_eq] at this
    rw [← h, tI_tnd li2, e1] at this
    omega
  · intro z k hk hb
    have hk := List.mem_range.mp hk
    unfold badAt at hb
    cases e : g[k]? with
    | none => rw [e] at hb; cases hb
    | some o =>
      cases o with
      | none => rw [e] at hb; cases hb
      | some n =>
        rw [e] at hb
        simp only [decide_eq_true_eq] at hb
        have e2 := pl_get B.tn g hk
        rw [e] at e2
        have := z _ n e2
        rw [← h, tI_tnd hk] at hb
        omega
theorem free_perm (t : Bool) (g : Gv Str) : ((free g).map (tI t g.length)).Perm ((free (pl t g)).map fun i : Nat => (i : Int)) := by
  have nd1 : (free g).Nodup := (free_sorted g).imp fun h => by omega
  have nd2 : (free (pl t g)).Nodup := (free_sorted _).imp fun h => by omega
  have lt1 : ∀ i ∈ free g, i < g.length := fun i hi => (List.getElem?_eq_some_iff.mp (mem_free.mp hi)).1
  refine (List.perm_ext_iff_of_nodup ?_ ?_).mpr fun x => ?_
  · refine List.Pairwise.map (R := fun a b => a ≠ b ∧ a < g.length ∧ b < g.length) _ (fun a b h e => ?_) ?_
    · obtain ⟨h1, h2, h3⟩ := h
      unfold tI at e
      split at e <;> omega
    · refine List.Pairwise.imp_of_mem (R := (· ≠ ·)) (fun {a b} ha hb h => ⟨h, lt1 a ha, lt1 b hb⟩) nd1
  · exact List.Pairwise.map _ (fun a b h e => h (by omega)) nd2
  · rw [List.mem_map, List.mem_map]
    constructor
    · rintro ⟨i, hi, rfl⟩
      refine ⟨tnd t g.length i, mem_free.mpr ?_, (tI_tnd (lt1 i hi)).symm⟩
      rw [pl_get t g (lt1 i hi)]; exact mem_free.mp hi
    · rintro ⟨i, hi, rfl⟩
      have hi := mem_free.mp hi
      have li : i < g.length := by have := (List.getElem?_eq_some_iff.mp hi).1; rwa [pl_len] at this
      have li2 : tnd t g.length i < g.length := by unfold tnd; split <;> omega
      have e1 : tnd t g.length (tnd t g.length i) = i := by unfold tnd; split <;> omega
      refine ⟨tnd t g.length i, mem_free.mpr ?_, by rw [tI_tnd li2, e1]⟩
      have e2 := pl_get t g li2
      rw [e1, hi] at e2
      exact e2.symm
section
variable {P : Program} {w : World} {K : PySem.W.Frag} {mg : Str → Option Value} {base : Heap} {C : Kd → Addr} {CB RC : Addr}
abbrev sBoard_turned : Stmt := inClass (top 44) 1
abbrev NBoard_turned : List Str := ["self", "position"]
theorem scBoard_turned : FnScope NBoard_turned ["self", "position"] (defScope sBoard_turned) := ⟨rfl, rfl, rfl, by decide +kernel, rfl, by decide +kernel, by decide +kernel⟩
-- 0 self, 1 position
theorem met_turned (F : DM K CB "turned" "Board.turned" sBoard_turned ["self", "position"]) (T : Txt K mg C CB RC) : C8.Met P w K mg base 1 CB "turned" (spTurned CB) [] := by
  refine F.met T.clB scBoard_turned (fun vs H Q E h => ?_) (fun f cdv A outer s H vs Q E hr h => ?_)
  · obtain ⟨p, dx, fs, n, pos, t, rfl, _⟩ := h
    rfl
  · obtain ⟨p, dx, fs, n, pos, t, rfl, hp, hn, ht, q⟩ := h
    refine ⟨_, (pss_one (ps_ret (pe_ifExp (pt_val (pe_fld_k K (pv 0) rfl)) (pe_op op_sub (pe_op op_sub (pe_fld_k K (pv 0) rfl) pe_int) (pv 1)) (pv 1)))), ?_⟩
    refine ⟨_, rfl, p, CB, dx, _, _, rfl, hp, T.clB, T.nB "is_turned" (by decide), ht, t, rfl, ?_⟩
    cases t with
    | true =>
      refine iteT ?_
      exact ⟨_, rfl, p, CB, dx, _, _, rfl, hp, T.clB, T.nB "size" (by decide), hn, _, _, rfl, rfl, _, rfl, _, _, rfl, rfl, q⟩
    | false => exact iteF ⟨_, rfl, q⟩
abbrev sBoard_far_items : Stmt := inClass (top 44) 2
abbrev NBoard_far_items : List Str := ["self", "item", "bound"]
theorem scBoard_far_items : FnScope NBoard_far_items ["self"] (defScope sBoard_far_items) := ⟨rfl, rfl, rfl, by decide +kernel, rfl, by decide +kernel, by decide +kernel⟩
-- 0 self, 1 item, 2 bound
theorem met_far_items (F : DM K CB "far_items" "Board.far_items" sBoard_far_items ["self"]) (T : Txt K mg C CB RC) : C8.Met P w K mg base 1 CB "far_items" (spFar CB) [] := by
  refine F.met T.clB scBoard_far_items (fun vs H Q E h => ?_) (fun f cdv A outer s H vs Q E hr h => ?_)
  · obtain ⟨p, B, g, rfl, _⟩ := h
    rfl
  · obtain ⟨p, B, g, rfl, hB, q⟩ := h
    obtain ⟨dx, d, gl, l, hp, hd, hl, hg⟩ := hB.ex
    have npd : p ≠ d := ne_of hp hd (by intro z; cases z)
    refine ⟨_, (pss_one (ps_ret (pe_lock (pe_lc (own := [("item", 1), ("bound", 2)]) rfl scBoard_far_items.nd (pi_items (pe_fld_k K (pv 0) rfl)) (blkOk_by (N := NBoard_far_items) (sc := defScope sBoard_far_items) (own := [("item", 1), ("bound", 2)]) (by decide +kernel)) (fun _ _ _ _ _ => (pg_tup_k K (n := 2) rfl (pgs_cons (pg_name (i := 1) scBoard_far_items.nd rfl (Or.inl rfl)) (pgs_cons (pg_name (i := 2) scBoard_far_items.nd rfl (Or.inl rfl)) pgs_nil)))) (fun _ _ _ _ _ => (pts_one (pt_cmpR op_lt (pv 2) pe_int (nomark _)))) (fun _ _ _ _ _ => (pv 1)))))), ?_⟩
    refine ⟨d, _, hd, trivial, fun od => ?_⟩
    have hp1 : (upd H d (.frz od (.dK (flK B l)))) p = some (.ins CB dx (bdF B.ns.length B.tn d gl)) := by rw [upd_ne npd]; exact hp
    refine ⟨_, rfl, p, CB, dx, _, _, rfl, hp1, T.clB, T.nB "floors" (by decide), bd_floors _ _ _ _, d, od, flK B l, rfl, upd_same, fun D hD => ?_⟩
    have ll : l.length ≤ 40 := by rw [hl.length_eq]; exact hB.few
    refine lcP (walk_items (kvs := flK B l)) (fun i => (l[i]?).bind fun n => if B.fl n < 0 then some (V.str n) else none) hD (by simp [flK]; omega) (fun H1 e => e _ _ upd_same) (fun i x H1 H' Qy Qn hi e y k1 k2 => ?_) fun H' e h => ?_
    · obtain ⟨t, x, y, rfl, nT, rfl, ex, ey⟩ := y
      have hi' : i < l.length := by simpa [flK] using hi
      have el : l[i]? = some l[i] := List.getElem?_eq_getElem hi'
      simp only [flK, List.getElem?_map, el, Option.map_some, Option.some.injEq] at ex ey
      subst ex ey
      have eT : Ex H1 (upd H1 t (.tup [kV (Sum.inr l[i]), .int (B.fl l[i])])) := Evl.Ex.new nT
      refine ⟨t, _, rfl, .inl (.inl upd_same), rfl, _, _, rfl, _, _, rfl, rfl, rfl, ?_⟩
      refine ⟨_, rfl, _, _, rfl, rfl, _, rfl, ?_⟩
      refine ite2 (fun c => ?_) (fun c => ?_)
      · have c : B.fl l[i] < 0 := by simpa using c
        exact ⟨_, rfl, k1 _ _ eT (by rw [el]; show (if B.fl l[i] < 0 then _ else _) = _; rw [if_pos c]; rfl)⟩
      · have c : ¬ B.fl l[i] < 0 := by simpa using c
        exact k2 _ eT (by rw [el]; show (if B.fl l[i] < 0 then _ else _) = _; rw [if_neg c])
    · have hD0 : H D = none := by
        cases z : H D with
        | none => rfl
        | some o =>
          by_cases zd : D = d
          · rw [zd, upd_same] at hD; cases hD
          · rw [upd_ne zd, z] at hD; cases hD
      refine ⟨e _ _ upd_same, q D _ (l.filter fun n => decide (B.fl n < 0)) hD0 (lock_ex hd e) ?_ (Nat.le_trans (List.length_filter_le _ _) ll) ?_⟩
      · have nDd : D ≠ d := fun z => by rw [z, upd_same] at hD; cases hD
        rw [upd_ne nDd, h]
        have e1 : (flK B l).length = l.length := by simp [flK]
        rw [e1, range_filter l _ (fun n => if B.fl n < 0 then some (V.str n) else none) fun i x hx => by rw [hx]; rfl]
        rw [fm_filter]
      · unfold farB
        rw [List.any_eq_false, List.filter_eq_nil_iff]
        constructor
        · intro z n hn
          exact z n (hl.mem_iff.mpr hn)
        · intro z n hn
          exact z n (hl.mem_iff.mp hn)
abbrev sBoard_wrong_positions : Stmt := inClass (top 44) 3
abbrev NBoard_wrong_positions : List Str := ["self", "given", "found", "position", "item"]
theorem scBoard_wrong_positions : FnScope NBoard_wrong_positions ["self", "given"] (defScope sBoard_wrong_positions) := ⟨rfl, rfl, rfl, by decide +kernel, rfl, by decide +kernel, by decide +kernel⟩
-- 0 self, 1 given, 2 found, 3 position, 4 item
theorem met_wrong_positions (F : DM K CB "wrong_positions" "Board.wrong_positions" sBoard_wrong_positions ["self", "given"]) (T : Txt K mg C CB RC) (c_turned : C8.Met P w K mg base 1 CB "turned" (spTurned CB) []) : C8.Met P w K mg base 2 CB "wrong_positions" (spWrong CB) [] := by
  refine F.met T.clB scBoard_wrong_positions (fun vs H Q E h => ?_) (fun f cdv A outer s H vs Q E hr h => ?_)
  · obtain ⟨p, a, B, g, g', rfl, _⟩ := h
    rfl
  · obtain ⟨p, a, B, g, g', rfl, hB, ha, ok, q⟩ := h
    obtain ⟨dx, d, gl, l, hp, hd, hl, hg⟩ := hB.ex
    have hlen : g'.length = B.ns.length := ok.len
    have few := hB.few
    refine ⟨_, (pss_cons (ps_set (i := 2) scBoard_wrong_positions.nd rfl (Or.inl rfl) (pe_lst pa_nil))
      (pss_cons (ps_for PassesOwn.never rfl (pi_enum (by rfl) T.enumerate_ (pa_cons (pv 1) pa_nil)) (pg_tup_k K (n := 2) rfl (pgs_cons (pg_name (i := 3) scBoard_wrong_positions.nd rfl (Or.inl rfl)) (pgs_cons (pg_name (i := 4) scBoard_wrong_positions.nd rfl (Or.inl rfl)) pgs_nil))) (pss_one (ps_if (PW.pt (pw_and (pt_cmpR op_notN (pv 4) pe_non (nomark _)) (pw_and1 (pt_cmpR op_lt (C8.pe_mt c_turned hr (by decide) (pv 0) (pa_cons (pv 3) pa_nil)) (pe_dget (hu_of hr) (pe_fld_k K (pv 0) rfl) (pv 4) (fun _ _ => rfl)) (nomark _))))) (pss_one (ps_expr (pe_bm_k K PySem.F.plainAttrs_list PySem.F.slot_list_append PySem.F.type_list_append mt_append (pv 2) (pa_cons (pv 3) pa_nil)))) pss_nil)))
      (pss_one (ps_ret (pv 2))))), ?_⟩
    refine ⟨Nat.zero_le _, fun D hD => ?_⟩
    refine ⟨_, rfl, a, g'.map vo, rfl, Evl.sq_of ((Evl.Ex.new hD) _ _ ha), for_it walk_enum (fun i σ H1 => ∃ y3 y4, σ = [some (.ref p), some (.ref a), some (.ref D), y3, y4] ∧ Ex H H1 ∧ H1 D = some (.lst (((List.range i).filter (badAt B g')).map fun k => V.int (k : Nat))))
      ⟨none, none, rfl, Evl.Ex.new hD, upd_same⟩ (fun i σ H1 _ ⟨_, _, _, e, _⟩ => Evl.sq_of (e _ _ ha)) (fun i x σ H1 H' hi P y => ?_) fun σ H1 P => ?_⟩
    · obtain ⟨y3, y4, rfl, e1, h1⟩ := P
      obtain ⟨t, x, z, rfl, nT, rfl, ex, ez⟩ := y
      have ex : x = V.int (i : Nat) := (Option.some.inj ex).symm
      subst ex
      obtain ⟨o, ho, rfl⟩ := get_vo ez
      have hi' : i < g'.length := by simpa using hi
      have eT : Ex H1 (upd H1 t (.tup [V.int (i : Nat), vo o])) := Evl.Ex.new nT
      have e2 := e1.trans eT
      have h2 := eT _ _ h1
      have len1 : ((List.range i).filter (badAt B g')).length ≤ i := by
        have := List.length_filter_le (badAt B g') (List.range i)
        rw [List.length_range] at this; exact this
      have no : badAt B g' i = false → (upd H1 t (.tup [V.int (i : Nat), vo o])) D = some (.lst (((List.range (i + 1)).filter (badAt B g')).map fun k => V.int (k : Nat))) := fun hb => by
        rw [List.range_succ, List.filter_append, List.filter_cons, hb, if_neg Bool.false_ne_true]
        simpa using h2
      refine ⟨t, _, rfl, .inl (.inl upd_same), rfl, _, _, rfl, _, _, rfl, rfl, ?_⟩
      refine ⟨_, rfl, rfl, ?_⟩
      cases o with
      | none =>
        refine ⟨false, rfl, iteF ?_⟩
        refine iteF ⟨_, _, rfl, e2, no ?_⟩
        unfold badAt; rw [ho]
      | some n =>
        refine ⟨true, rfl, iteT ?_⟩
        have hp' := e2 _ _ hp
        have hn : n ∈ l := hl.mem_iff.mpr (ok.mem n (List.mem_of_getElem? ho))
        refine ⟨_, rfl, p, dx, _, rfl, hp', bd_m _ _ _ _ _ (by decide), _, rfl, p, dx, _, _, _, _, rfl, hp', bd_size _ _ _ _, bd_turned _ _ _ _, ?_⟩
        refine ⟨_, rfl, p, CB, dx, _, _, rfl, hp', T.clB, T.nB "floors" (by decide), bd_floors _ _ _ _, _, rfl, d, _, rfl, (by have := DGet.k (k := Sum.inr n) (e2 _ _ hd); rw [valV_fl B hn] at this; exact this), _, _, rfl, rfl, _, rfl, ?_⟩
        have hbad : badAt B g' i = decide ((if B.tn = true then (B.ns.length : Int) - 1 - (i : Nat) else (i : Nat)) < B.fl n) := by
          unfold badAt; rw [ho]; rfl
        rw [← hbad]
        cases hb : badAt B g' i with
        | false => exact iteF ⟨_, _, rfl, e2, no hb⟩
        | true =>
          refine iteT ?_
          refine ⟨_, rfl, .inl ⟨rfl, _, Evl.sq_of h2⟩, _, rfl, D, _, _, rfl, rfl, h2, ?_, ?_⟩
          · rw [List.length_map]
            exact Nat.lt_of_le_of_lt len1 (Nat.lt_of_lt_of_le hi' (Nat.le_trans (by omega : g'.length ≤ 40) (by decide)))
          · refine ⟨_, _, rfl, Evl.Ex.mut e2 hD, ?_⟩
            rw [upd_same, List.range_succ, List.filter_append, List.filter_cons, hb, if_pos rfl]
            simp
    · obtain ⟨y3, y4, rfl, e1, h1⟩ := P
      rw [List.length_map] at h1
      refine ⟨_, rfl, q D H1 _ hD e1 h1 (fun i hi => ?_) (bad_wrong hlen)⟩
      exact List.mem_range.mp (List.mem_filter.mp hi).1
abbrev sBoard_free_places : Stmt := inClass (top 44) 4
abbrev NBoard_free_places : List Str := ["self", "given", "position", "item"]
theorem scBoard_free_places : FnScope NBoard_free_places ["self", "given"] (defScope sBoard_free_places) := ⟨rfl, rfl, rfl, by decide +kernel, rfl, by decide +kernel, by decide +kernel⟩
-- 0 self*, 1 given, 2 position, 3 item
theorem met_free_places (F : DM K CB "free_places" "Board.free_places" sBoard_free_places ["self", "given"]) (T : Txt K mg C CB RC) (c_turned : C8.Met P w K mg base 1 CB "turned" (spTurned CB) []) : C8.Met P w K mg base 2 CB "free_places" (spFree CB) [] := by
  refine F.met T.clB scBoard_free_places (fun vs H Q E h => ?_) (fun f cdv A outer s H vs Q E hr h => ?_)
  · obtain ⟨p, a, B, g, g', rfl, _⟩ := h
    rfl
  · obtain ⟨p, a, B, g, g', rfl, hB, ha, ok, q⟩ := h
    obtain ⟨dx, d, gl, l, hp, hd, hl, hg⟩ := hB.ex
    have hlen : g'.length = B.ns.length := ok.len
    have few := hB.few
    refine ⟨_, (pss_one (ps_ret (pe_callB cr_sorted (by rfl) T.sorted_ (by decide +kernel) (pa_cons (pe_lc (own := [("position", 2), ("item", 3)]) rfl scBoard_free_places.nd (pi_enum (by rfl) T.enumerate_ (pa_cons (pv 1) pa_nil)) (blkOk_by (N := NBoard_free_places) (sc := defScope sBoard_free_places) (own := [("position", 2), ("item", 3)]) (by decide +kernel)) (fun _ _ _ _ _ => (pg_tup_k K (n := 2) rfl (pgs_cons (pg_name (i := 2) scBoard_free_places.nd rfl (Or.inl rfl)) (pgs_cons (pg_name (i := 3) scBoard_free_places.nd rfl (Or.inl rfl)) pgs_nil)))) (fun _ _ _ _ _ => (pts_one (pt_cmpR op_isN (pv 3) pe_non (nomark _)))) (fun _ _ _ _ _ => (C8.pe_mt c_turned hr (by decide) (pv 0) (pa_cons (pv 2) pa_nil)))) pa_nil)))), ?_⟩
    refine ⟨_, rfl, a, g'.map vo, rfl, Evl.sq_of ha, fun D hD => lcP walk_enum (fun i => if (g'[i]? == some none) = true then some (V.int (tI B.tn g'.length i)) else none) hD (by simp; omega) (fun H1 e => Evl.sq_of (e _ _ ha)) (fun i x H1 H' Qy Qn hi e y k1 k2 => ?_) fun H1 e1 h1 => ?_⟩
    · obtain ⟨t, x, z, rfl, nT, rfl, ex, ez⟩ := y
      have ex : x = V.int (i : Nat) := (Option.some.inj ex).symm
      subst ex
      obtain ⟨o, ho, rfl⟩ := get_vo ez
      have eT : Ex H1 (upd H1 t (.tup [V.int (i : Nat), vo o])) := Evl.Ex.new nT
      refine ⟨t, _, rfl, .inl (.inl upd_same), rfl, _, _, rfl, _, _, rfl, rfl, rfl, ?_⟩
      refine ⟨_, rfl, rfl, ?_⟩
      cases o with
      | none =>
        refine ⟨true, rfl, iteT ?_⟩
        have hp' := (e.trans eT) _ _ hp
        refine ⟨_, rfl, p, dx, _, rfl, hp', bd_m _ _ _ _ _ (by decide), _, rfl, p, dx, _, _, _, _, rfl, hp', bd_size _ _ _ _, bd_turned _ _ _ _, ?_⟩
        refine k1 _ _ eT ?_
        rw [ho, hlen]; rfl
      | some n =>
        refine ⟨false, rfl, iteF (k2 _ eT ?_)⟩
        rw [ho]; rfl
    · have e0 : (List.range (g'.map vo).length).filterMap (fun i => if (g'[i]? == some none) = true then some (V.int (tI B.tn g'.length i)) else none) = ((free g').map (tI B.tn g'.length)).map V.int := by
        rw [List.length_map, fm_filter (List.range g'.length) (fun i => (g'[i]? == some none) = true) fun i => V.int (tI B.tn g'.length i), List.map_map]
        unfold free
        congr 1
        refine List.filter_congr fun i _ => ?_
        cases (g'[i]? == some none) <;> rfl
      rw [e0] at h1
      refine ⟨D, _, rfl, Evl.sq_of h1, ?_, fun ns p2 hperm hasc hp2 => ?_⟩
      · rw [List.length_map]
        have := List.length_filter_le (fun i => g'[i]? == some none) (List.range g'.length)
        rw [List.length_range] at this
        unfold free; omega
      · have en : ns = (free (pl B.tn g')).map fun i : Nat => (i : Int) :=
          List.Perm.eq_of_pairwise (le := fun a b : Int => a ≤ b) (fun a b _ _ h k => Int.le_antisymm h k) hasc (List.Pairwise.map _ (fun a b h => by omega) (free_sorted _)) (hperm.trans (free_perm _ _))
        subst en
        refine q p2 _ (Evl.fresh_back e1 hp2) (e1.trans (Evl.Ex.new hp2)) ?_
        rw [upd_same, List.map_map]; rfl
abbrev sBoard_waiting_bounds : Stmt := inClass (top 44) 5
abbrev NBoard_waiting_bounds : List Str := ["self", "given", "item", "bound"]
theorem scBoard_waiting_bounds : FnScope NBoard_waiting_bounds ["self", "given"] (defScope sBoard_waiting_bounds) := ⟨rfl, rfl, rfl, by decide +kernel, rfl, by decide +kernel, by decide +kernel⟩
-- 0 self, 1 given*, 2 item, 3 bound
theorem met_waiting_bounds (F : DM K CB "waiting_bounds" "Board.waiting_bounds" sBoard_waiting_bounds ["self", "given"]) (T : Txt K mg C CB RC) : C8.Met P w K mg base 2 CB "waiting_bounds" (spWaiting CB) [] := by
  refine F.met T.clB scBoard_waiting_bounds (fun vs H Q E h => ?_) (fun f cdv A outer s H vs Q E hr h => ?_)
  · obtain ⟨p, a, B, g, g', rfl, _⟩ := h
    rfl
  · obtain ⟨p, a, B, g, g', rfl, hB, ha, ok, q⟩ := h
    obtain ⟨dx, d, gl, l, hp, hd, hl, hg⟩ := hB.ex
    have npd : p ≠ d := ne_of hp hd (by intro z; cases z)
    have nad : a ≠ d := ne_of ha hd (by intro z; cases z)
    refine ⟨_, (pss_one (ps_ret (pe_callB cr_sorted (by rfl) T.sorted_ (by decide +kernel) (pa_cons (pe_lock (pe_lc (own := [("item", 2), ("bound", 3)]) rfl scBoard_waiting_bounds.nd (pi_items (pe_fld_k K (pv 0) rfl)) (blkOk_by (N := NBoard_waiting_bounds) (sc := defScope sBoard_waiting_bounds) (own := [("item", 2), ("bound", 3)]) (by decide +kernel)) (fun _ _ _ _ _ => (pg_tup_k K (n := 2) rfl (pgs_cons (pg_name (i := 2) scBoard_waiting_bounds.nd rfl (Or.inl rfl)) (pgs_cons (pg_name (i := 3) scBoard_waiting_bounds.nd rfl (Or.inl rfl)) pgs_nil)))) (fun _ _ _ _ _ => (pts_one (pt_cmpR (op_notIn_seq_k K) (pv 2) (pv 1) (by rfl)))) (fun _ _ _ _ _ => (pv 3)))) pa_nil)))), ?_⟩
    refine ⟨d, _, hd, trivial, fun od => ?_⟩
    have hp1 : (upd H d (.frz od (.dK (flK B l)))) p = some (.ins CB dx (bdF B.ns.length B.tn d gl)) := by rw [upd_ne npd]; exact hp
    have ha1 : (upd H d (.frz od (.dK (flK B l)))) a = some (.lst (g'.map vo)) := by rw [upd_ne nad]; exact ha
    refine ⟨_, rfl, p, CB, dx, _, _, rfl, hp1, T.clB, T.nB "floors" (by decide), bd_floors _ _ _ _, d, od, flK B l, rfl, upd_same, fun D hD => ?_⟩
    have ll : l.length ≤ 40 := by rw [hl.length_eq]; exact hB.few
    refine lcP (walk_items (kvs := flK B l)) (fun i => (l[i]?).bind fun n => if ¬ some n ∈ g' then some (V.int (B.fl n)) else none) hD (by simp [flK]; omega) (fun H1 e => e _ _ upd_same) (fun i x H1 H' Qy Qn hi e y k1 k2 => ?_) fun H' e h => ?_
    · obtain ⟨t, x, y, rfl, nT, rfl, ex, ey⟩ := y
      have hi' : i < l.length := by simpa [flK] using hi
      have el : l[i]? = some l[i] := List.getElem?_eq_getElem hi'
      simp only [flK, List.getElem?_map, el, Option.map_some, Option.some.injEq] at ex ey
      subst ex ey
      have eT : Ex H1 (upd H1 t (.tup [kV (Sum.inr l[i]), .int (B.fl l[i])])) := Evl.Ex.new nT
      refine ⟨t, _, rfl, .inl (.inl upd_same), rfl, _, _, rfl, _, _, rfl, rfl, rfl, ?_⟩
      refine ⟨_, rfl, _, rfl, a, g'.map vo, rfl, .inl (Evl.sq_of ((e.trans eT) _ _ ha1)), rfl, flat_vo g', _, rfl, ?_⟩
      rw [if_pos rfl]
      have ei : inV (kV (Sum.inr l[i])) (g'.map vo) = decide (some l[i] ∈ g') := inV_vo
      rw [ei]
      by_cases c : some l[i] ∈ g'
      · rw [decide_eq_true c]
        exact iteF (k2 _ eT (by rw [el]; show (if ¬ some l[i] ∈ g' then _ else _) = _; rw [if_neg (fun z => z c)]))
      · rw [decide_eq_false c]
        exact iteT ⟨_, rfl, k1 _ _ eT (by rw [el]; show (if ¬ some l[i] ∈ g' then _ else _) = _; rw [if_pos c])⟩
    · have hD0 : H D = none := by
        cases z : H D with
        | none => rfl
        | some o =>
          by_cases zd : D = d
          · rw [zd, upd_same] at hD; cases hD
          · rw [upd_ne zd, z] at hD; cases hD
      have nDd : D ≠ d := fun z => by rw [z, upd_same] at hD; cases hD
      have e0 : (List.range (flK B l).length).filterMap (fun i => (l[i]?).bind fun n => if ¬ some n ∈ g' then some (V.int (B.fl n)) else none) = ((wait l g').map B.fl).map V.int := by
        have e1 : (flK B l).length = l.length := by simp [flK]
        rw [e1, range_filter l _ (fun n => if ¬ some n ∈ g' then some (V.int (B.fl n)) else none) fun i x hx => by rw [hx]; rfl, fm_filter, List.map_map]
        unfold wait
        congr 1
        refine List.filter_congr fun n _ => ?_
        by_cases c : some n ∈ g' <;> simp [c]
      rw [e0] at h
      have hl2 : (upd H' d (.dK (flK B l))) D = some (.lst (((wait l g').map B.fl).map V.int)) := by rw [upd_ne nDd]; exact h
      refine ⟨e _ _ upd_same, D, _, rfl, Evl.sq_of hl2, ?_, fun ns p2 hperm hasc hp2 => ?_⟩
      · rw [List.length_map]
        have : (wait l g').length ≤ l.length := List.length_filter_le _ _
        omega
      · have eL := lock_ex hd e
        refine q p2 _ ns (Evl.fresh_back eL hp2) (eL.trans (Evl.Ex.new hp2)) upd_same hasc (hperm.trans (List.Perm.map _ ?_))
        exact List.Perm.filter _ hl
end
end K21
/-! ## W5 -/
set_option Elab.async false
set_option linter.all false
set_option maxRecDepth 100000
set_option maxHeartbeats 4000000
/-! Spares; counts; options. -/
namespace K21
open PySem PySem.Spec PyProof.Rows L2
theorem count_sorted {ws : List Int} (hs : ws.Pairwise (· ≤ ·)) {m : Nat} {p : Int} (hm : m ≤ ws.length) (h1 : ∀ k x, k < m → ws[k]? = some x → x ≤ p) (h2 : ∀ x, ws[m]? = some x → p < x) :
    ws.countP (fun x => decide (x ≤ p)) = m := by
  have e : ws = ws.take m ++ ws.drop m := (List.take_append_drop m ws).symm
  have a1 : (ws.take m).countP (fun x => decide (x ≤ p)) = m := by
    have : (ws.take m).countP (fun x => decide (x ≤ p)) = (ws.take m).length := by
      rw [List.countP_eq_length]
      intro x hx
      obtain ⟨k, hk, ek⟩ := List.getElem_of_mem hx
      rw [List.length_take] at hk
      have := h1 k x (by omega) (by rw [← ek, List.getElem_take]; exact List.getElem?_eq_getElem _)
      simpa using this
    rw [this, List.length_take]; omega
  have a2 : (ws.drop m).countP (fun x => decide (x ≤ p)) = 0 := by
    rw [List.countP_eq_zero]
    intro x hx
    by_cases hl : m < ws.length
    · have h3 := h2 ws[m] (List.getElem?_eq_getElem hl)
      rw [List.drop_eq_getElem_cons hl] at hx
      have hs2 : (ws.drop m).Pairwise (· ≤ ·) := hs.drop
      rw [List.drop_eq_getElem_cons hl] at hs2
      have : ws[m] ≤ x := by
        rcases List.mem_cons.mp hx with rfl | z
        · exact Int.le_refl _
        · exact (List.pairwise_cons.mp hs2).1 _ z
      simp; omega
    · rw [List.drop_eq_nil_of_le (by omega)] at hx; cases hx
  rw [e, List.countP_append, a1, a2]; rfl
theorem tAnd_by {tA tB : TT} {σ : L2.St} {H : Hp} {Q : Bool → Hp → Prop} (b1 b2 : Bool) (hA : ∀ R : Bool → Hp → Prop, R b1 H → tA σ H R) (hB : b1 = true → ∀ R : Bool → Hp → Prop, R b2 H → tB σ H R) (q : Q (b1 && b2) H) : tAnd tA tB σ H Q := by
  refine hA _ ?_
  cases b1 with
  | true => exact hB rfl _ q
  | false => exact q
/-- the spares of what is given: each free place with what fits less what is before -/
def SparesAt (H : Hp) (q : Addr) (B : Bd Str) (g : Gv Str) : Prop := ∃ ts : List V, H q = some (.lst ts) ∧ ts.length = (free (pl B.tn g)).length ∧
  ∀ (i : Nat) x, ts[i]? = some x → ∃ t p, x = .ref t ∧ (free (pl B.tn g))[i]? = some p ∧ H t = some (.tup [.int (p : Nat), .int ((fits B.fl (wait B.ns g) p : Nat) - (i : Nat))])
def spSpares (CB : Addr) : Sp := fun vs H Q _ => ∃ (p a : Addr) (B : Bd Str) (g g' : Gv Str), vs = [.ref p, .ref a] ∧ BoardAt CB H p B g ∧ H a = some (.lst (g'.map vo)) ∧ Gok B.ns g' ∧
  ∀ q H', H q = none → Ex H H' → SparesAt H' q B g' → Q (.ref q) H'
theorem free_len (g : Gv Str) : (free g).length ≤ g.length := by
  have := List.length_filter_le (fun i => g[i]? == some none) (List.range g.length)
  rw [List.length_range] at this
  unfold free; exact this
section
variable {P : Program} {w : World} {K : PySem.W.Frag} {mg : Str → Option Value} {base : Heap} {C : Kd → Addr} {CB RC : Addr}
abbrev sBoard_spares : Stmt := inClass (top 44) 6
abbrev NBoard_spares : List Str := ["self", "given", "waiting", "found", "fitting", "before", "place"]
theorem scBoard_spares : FnScope NBoard_spares ["self", "given"] (defScope sBoard_spares) := ⟨rfl, rfl, rfl, by decide +kernel, rfl, by decide +kernel, by decide +kernel⟩
-- 0 self, 1 given, 2 waiting, 3 found, 4 fitting, 5 before, 6 place
theorem met_spares (F : DM K CB "spares" "Board.spares" sBoard_spares ["self", "given"]) (T : Txt K mg C CB RC) (c_free_places : C8.Met P w K mg base 2 CB "free_places" (spFree CB) []) (c_waiting_bounds : C8.Met P w K mg base 2 CB "waiting_bounds" (spWaiting CB) []) : C8.Met P w K mg base 3 CB "spares" (spSpares CB) [] := by
  refine F.met T.clB scBoard_spares (fun vs H Q E h => ?_) (fun f cdv A outer s H vs Q E hr h => ?_)
  · obtain ⟨p, a, B, g, g', rfl, _⟩ := h
    rfl
  · obtain ⟨p, a, B, g, g', rfl, hB, ha, ok, q⟩ := h
    obtain ⟨dx, d, gl, l, hp, hd, hl, hg⟩ := hB.ex
    have hlen : g'.length = B.ns.length := ok.len
    have few := hB.few
    have bdm := bd_m B.ns.length B.tn d gl
    refine ⟨_, (pss_cons (ps_set (i := 2) scBoard_spares.nd rfl (Or.inl rfl) (C8.pe_mt c_waiting_bounds hr (by decide) (pv 0) (pa_cons (pv 1) pa_nil)))
      (pss_cons (ps_par (i := 3) (j := 4) (by rfl) scBoard_spares.nd rfl rfl (by decide) rfl rfl (pa_cons (pe_lst pa_nil) (pa_cons pe_int pa_nil)) (by rfl))
      (pss_cons (ps_for PassesOwn.never rfl (pi_enum (by rfl) T.enumerate_ (pa_cons (C8.pe_mt c_free_places hr (by decide) (pv 0) (pa_cons (pv 1) pa_nil)) pa_nil)) (pg_tup_k K (n := 2) rfl (pgs_cons (pg_name (i := 5) scBoard_spares.nd rfl (Or.inl rfl)) (pgs_cons (pg_name (i := 6) scBoard_spares.nd rfl (Or.inl rfl)) pgs_nil))) (pss_cons (ps_while PassesOwn.never (PW.pt (pw_and (pt_cmpR op_lt (pv 4) (pe_callB (call_len_k K) (by rfl) T.len_ (by decide +kernel) (pa_cons (pv 2) pa_nil)) (nomark _)) (pw_and1 (pt_cmpR op_le (pe_ix (ix_list_k K) (pv 2) (pv 4) (fun _ _ => rfl)) (pv 6) (nomark _))))) (pss_one (ps_aug (i := 4) scBoard_spares.nd rfl (Or.inl rfl) pe_int ip_add)))
      (pss_one (ps_expr (pe_bm_k K PySem.F.plainAttrs_list PySem.F.slot_list_append PySem.F.type_list_append mt_append (pv 3) (pa_cons (pe_tup (pa_cons (pv 6) (pa_cons (pe_op op_sub (pv 4) (pv 5)) pa_nil))) pa_nil))))))
      (pss_one (ps_ret (pv 3)))))), ?_⟩
    refine ⟨_, rfl, p, dx, _, rfl, hp, bdm _ (by decide), _, rfl, p, a, B, g, g', rfl, hB, ha, ok, fun wA H1 ws _ e1 h1 hasc hperm => ?_⟩
    refine ⟨Nat.zero_le _, fun D hD => ⟨_, _, rfl, ?_⟩⟩
    have eD : Ex H1 (upd H1 D (.lst [])) := Evl.Ex.new hD
    have e2 := e1.trans eD
    refine ⟨_, rfl, p, dx, _, rfl, e2 _ _ hp, bdm _ (by decide), _, rfl, p, a, B, g, g', rfl, hB.mono e2, e2 _ _ ha, ok, fun fA H2 hfA e3 h2 => ?_⟩
    have fl40 : (free (pl B.tn g')).length ≤ 40 := by have := free_len (pl B.tn g'); rw [pl_len] at this; omega
    have hws2 : H2 wA = some (.lst (ws.map V.int)) := e3 _ _ (eD _ _ h1)
    have hD2 : H2 D = some (.lst []) := e3 _ _ upd_same
    have hws40 : ws.length ≤ 40 := by
      have e := hperm.length_eq
      rw [List.length_map] at e
      have := List.length_filter_le (fun n => !decide (some n ∈ g')) B.ns
      have : (wait B.ns g').length ≤ B.ns.length := this
      omega
    have hfits : ∀ p : Nat, fits B.fl (wait B.ns g') p = ws.countP (fun x => decide (x ≤ (p : Int))) := fun p => by
      rw [hperm.countP_eq, List.countP_map]; rfl
    have nfD : fA ≠ D := fun z => by rw [z, upd_same] at hfA; cases hfA
    have neDw : D ≠ wA := fun z => by rw [z, h1] at hD; cases hD
    refine ⟨fA, _, rfl, Evl.sq_of h2, for_it (walk_enum (xs := (free (pl B.tn g')).map fun i => V.int (i : Nat))) (fun i σ H3 => ∃ (m : Nat) (ts : List V) (y5 y6 : Option V), σ = [some (.ref p), some (.ref a), some (.ref wA), some (.ref D), some (.int m), y5, y6] ∧ Ex (del H2 D) (del H3 D) ∧ H3 D = some (.lst ts) ∧ ts.length = i ∧ m ≤ ws.length ∧
      (∀ k x j y, k < m → i ≤ j → ws[k]? = some x → (free (pl B.tn g'))[j]? = some y → x ≤ (y : Int)) ∧
      ∀ (i : Nat) x, ts[i]? = some x → ∃ t p, x = .ref t ∧ (free (pl B.tn g'))[i]? = some p ∧ (del H3 D) t = some (.tup [.int (p : Nat), .int ((fits B.fl (wait B.ns g') p : Nat) - (i : Nat))]))
      ⟨0, [], none, none, rfl, Evl.Ex.refl _, hD2, rfl, Nat.zero_le _, fun k x j y hk => by omega, fun i x hx => by simp at hx⟩ (fun i σ H3 _ P => ?_) (fun i x σ H3 H' hi P y => ?_) fun σ H3 P => ?_⟩
    · obtain ⟨m, ts, y5, y6, rfl, e4, _⟩ := P
      have h2' : (del H2 D) fA = some (.lst ((free (pl B.tn g')).map fun i => V.int (i : Nat))) := by
        rw [del_ne nfD]; exact h2
      exact Evl.sq_of (del_sub _ _ (e4 _ _ h2'))
    · obtain ⟨m, ts, y5, y6, rfl, e4, h3, htl, hm, hall, hts⟩ := P
      obtain ⟨t, x1, z1, rfl, nT, rfl, ex, ez⟩ := y
      have ex : x1 = V.int (i : Nat) := (Option.some.inj ex).symm
      subst ex
      have ez : ((free (pl B.tn g')).map fun i => V.int (i : Nat))[i]? = some z1 := ez
      rw [List.getElem?_map] at ez
      obtain ⟨pc, hpc, rfl⟩ := Option.map_eq_some_iff.mp ez
      have eT : Ex H3 (upd H3 t (.tup [V.int (i : Nat), .int (pc : Nat)])) := Evl.Ex.new nT
      generalize hH4 : upd H3 t (.tup [V.int (i : Nat), .int (pc : Nat)]) = H4 at eT ⊢
      refine ⟨t, _, rfl, .inl (.inl (by rw [← hH4]; exact upd_same)), rfl, _, _, rfl, _, _, rfl, rfl, ?_⟩
      have hw4 : H4 wA = some (.lst (ws.map V.int)) := eT _ _ (del_sub _ _ (e4 _ _ (by rw [del_ne (fun z => neDw z.symm)]; exact hws2)))
      refine ⟨fun n σ H5 => ∃ m' : Nat, n = ws.length - m' ∧ m' ≤ ws.length ∧ H5 = H4 ∧ σ = [some (.ref p), some (.ref a), some (.ref wA), some (.ref D), some (.int m'), some (.int (i : Nat)), some (.int (pc : Nat))] ∧ ∀ k x, k < m' → ws[k]? = some x → x ≤ (pc : Int), ⟨_, m, rfl, hm, rfl, rfl, fun k x hk hx => hall k x i pc hk (Nat.le_refl _) hx hpc⟩, ?_⟩
      rintro n σ H5 ⟨m', rfl, hm', rfl, rfl, hle⟩
      have hget : ∀ x, ws[m']? = some x → (ws.map V.int)[m']? = some (V.int x) := fun x hx => by rw [List.getElem?_map, hx]; rfl
      refine tAnd_by (decide (m' < ws.length)) (match ws[m']? with | some x => decide (x ≤ (pc : Int)) | none => false) (fun R r => ?_) (fun hb R r => ?_) ?_
      · refine ⟨_, rfl, _, rfl, wA, _, rfl, .inl (Evl.sq_of hw4), _, _, rfl, rfl, _, rfl, ?_⟩
        rw [List.length_map]
        simpa using r
      · have hb := of_decide_eq_true hb
        have ex := List.getElem?_eq_getElem hb
        rw [ex] at r
        refine ⟨_, rfl, _, rfl, wA, _, _, .int ws[m'], rfl, rfl, Evl.sq_of hw4, atI_nat (hget _ ex), _, rfl, _, _, rfl, rfl, _, rfl, ?_⟩
        exact r
      · generalize hb : (decide (m' < ws.length) && (match ws[m']? with | some x => decide (x ≤ (pc : Int)) | none => false)) = b
        cases b with
        | true =>
          rw [if_pos rfl]
          obtain ⟨hb1, hb2⟩ := (Bool.and_eq_true _ _).mp hb
          have hb1 := of_decide_eq_true hb1
          rw [List.getElem?_eq_getElem hb1] at hb2
          have hb2 := of_decide_eq_true hb2
          refine ⟨_, fun σ' H' hN => hN, ?_⟩
          refine ⟨_, rfl, _, _, rfl, rfl, ?_⟩
          refine ⟨_, ?_, m' + 1, rfl, hb1, rfl, rfl, fun k x hk hx => ?_⟩
          · omega
          · by_cases z : k < m'
            · exact hle k x z hx
            · have : k = m' := by omega
              subst this
              rw [List.getElem?_eq_getElem hb1] at hx
              cases hx; exact hb2
        | false =>
          rw [if_neg Bool.false_ne_true]
          have hgt : ∀ x, ws[m']? = some x → (pc : Int) < x := fun x hx => by
            have hb1 := (List.getElem?_eq_some_iff.mp hx).1
            rw [decide_eq_true hb1, hx] at hb
            simp at hb; exact hb
          have hm2 : fits B.fl (wait B.ns g') pc = m' := by rw [hfits]; exact count_sorted hasc hm' hle hgt
          have h4 : H5 D = some (.lst ts) := eT _ _ h3
          have hfl : i < 40 := by simpa using Nat.lt_of_lt_of_le hi (by simpa using fl40)
          refine ⟨_, rfl, .inl ⟨rfl, _, Evl.sq_of h4⟩, ?_⟩
          refine ⟨_, rfl, _, rfl, _, rfl, _, _, rfl, rfl, (by show 2 ≤ sizeLine; decide), fun tp htp => ?_⟩
          have eP : Ex H5 (upd H5 tp (.tup [.int (pc : Nat), .int ((m' : Int) - (i : Nat))])) := Evl.Ex.new htp
          have nDt : D ≠ tp := fun z => by rw [← z, h4] at htp; cases htp
          refine ⟨D, ts, _, rfl, rfl, eP _ _ h4, Nat.lt_of_lt_of_le (by rw [htl]; exact hfl) (by decide), ?_⟩
          have e5 : Ex (del H3 D) (del (upd (upd H5 tp (.tup [.int (pc : Nat), .int ((m' : Int) - (i : Nat))])) D (.lst (ts ++ [.ref tp]))) D) := by
            rw [del_upd]
            exact del_ex (eT.trans eP)
          refine ⟨m', ts ++ [.ref tp], _, _, rfl, e4.trans e5, upd_same, by simp [htl], hm', fun k x j y hk hj hx hy => ?_, fun i2 x hx => ?_⟩
          · have h6 := hle k x hk hx
            have h7 := free_sorted (pl B.tn g')
            have hlt : i < j := hj
            obtain ⟨li, ei⟩ := List.getElem?_eq_some_iff.mp hpc
            obtain ⟨lj, ej⟩ := List.getElem?_eq_some_iff.mp hy
            have := List.pairwise_iff_getElem.mp h7 i j li lj hlt
            rw [ei, ej] at this
            omega
          · by_cases z : i2 < ts.length
            · rw [List.getElem?_append_left z] at hx
              obtain ⟨t2, p2, h8, h9, h10⟩ := hts i2 x hx
              exact ⟨t2, p2, h8, h9, e5 _ _ h10⟩
            · have z2 : i2 = ts.length := by
                have := (List.getElem?_eq_some_iff.mp hx).1
                simp at this; omega
              subst z2
              rw [List.getElem?_append_right (Nat.le_refl _)] at hx
              simp at hx
              refine ⟨tp, pc, hx.symm, by rw [htl]; exact hpc, ?_⟩
              rw [del_upd, del_ne (fun z => nDt z.symm), upd_same, htl, hm2]
    · obtain ⟨m, ts, y5, y6, rfl, e4, h3, htl, hm, hall, hts⟩ := P
      refine ⟨_, rfl, ?_⟩
      have hDH : H D = none := by
        cases z : H D with
        | none => rfl
        | some o => rw [e1 _ _ z] at hD; cases hD
      have eF : Ex H H3 := fun b o q => by
        have nb : b ≠ D := fun z => by rw [z, hDH] at q; cases q
        exact del_sub _ _ (e4 _ _ (by rw [del_ne nb]; exact e3 _ _ (e2 _ _ q)))
      refine q D H3 hDH eF ⟨ts, h3, by rw [htl, List.length_map], fun i x hx => ?_⟩
      obtain ⟨t, p, h8, h9, h10⟩ := hts i x hx
      exact ⟨t, p, h8, h9, del_sub _ _ h10⟩
end
end K21
/-! ## W6 -/
set_option Elab.async false
set_option linter.all false
set_option maxRecDepth 100000
set_option maxHeartbeats 4000000
/-! Boards made; counts; options. -/
namespace K21
open PySem PySem.Spec PyProof.Rows L2
/-- the board of a log -/
structure Canon (k : Kd) (rows : List (Str × Int)) (B : Bd Str) : Prop where
  perm : (rows.map (·.1)).Perm B.ns
  asc : B.ns.Pairwise LtS
  tn : B.tn = k.isF
  fl : ∀ n s, (n, s) ∈ rows → B.fl n = if k.isF = true then (rows.length : Int) - 1 - s else s
theorem Canon.len {k : Kd} {rows : List (Str × Int)} {B : Bd Str} (c : Canon k rows B) : B.ns.length = rows.length := by
  rw [← c.perm.length_eq, List.length_map]
theorem nodup_fst {rows : List (Str × Int)} (h : (rows.map (·.1)).Nodup) {n : Str} {s t : Int} (a : (n, s) ∈ rows) (b : (n, t) ∈ rows) : s = t := by
  induction rows with
  | nil => cases a
  | cons x r ih =>
    rw [List.map_cons, List.nodup_cons] at h
    rcases List.mem_cons.mp a with a2 | a2
    · rcases List.mem_cons.mp b with b2 | b2
      · rw [← b2] at a2; exact (Prod.mk.inj a2).2
      · rw [← a2] at h
        exact absurd (List.mem_map.mpr ⟨(n, t), b2, rfl⟩) h.1
    · rcases List.mem_cons.mp b with b2 | b2
      · rw [← b2] at h
        exact absurd (List.mem_map.mpr ⟨(n, s), a2, rfl⟩) h.1
      · exact ih h.2 a2 b2
theorem Canon.exists {k : Kd} {rows : List (Str × Int)} (h : (rows.map (·.1)).Nodup) : ∃ B : Bd Str, Canon k rows B := by
  obtain ⟨l, h1, h2⟩ := asc_exists (rows.map (·.1)) h
  refine ⟨⟨l, fun n => match rows.find? fun r => r.1 == n with
    | some r => if k.isF = true then (rows.length : Int) - 1 - r.2 else r.2
    | none => 0, k.isF⟩, h1, h2, rfl, fun n s hn => ?_⟩
  show (match rows.find? fun r => r.1 == n with | some r => _ | none => _) = _
  cases e : rows.find? fun r => r.1 == n with
  | none => exact absurd (List.find?_eq_none.mp e _ hn) (by simp)
  | some r =>
    have h3 := List.mem_of_find?_eq_some e
    have h4 : r.1 = n := by simpa using List.find?_some e
    have : (n, r.2) ∈ rows := by rw [← h4]; exact h3
    rw [nodup_fst h hn this]
theorem gok_sok {rows : List (Str × Int)} {g : Gv Str} {ns : List Str} (ok : Sok rows g) (hp : (rows.map (·.1)).Perm ns) : Gok ns g := by
  refine ⟨by rw [ok.len, ← hp.length_eq, List.length_map], fun n hn => hp.mem_iff.mp (ok.mem n hn), ?_⟩
  have h1 := ok.one
  clear ok
  induction g with
  | nil => intro i j n hi; simp at hi
  | cons o r ih =>
    have two : ∀ (j : Nat) n, o = some n → r[j]? = some (some n) → False := fun j n ho hj => by
      subst ho
      have : itms (some n :: r) = n :: itms r := rfl
      rw [this, List.nodup_cons] at h1
      exact h1.1 (List.mem_filterMap.mpr ⟨some n, List.mem_of_getElem? hj, rfl⟩)
    have nr : (itms r).Nodup := by
      cases o with
      | none => exact h1
      | some n => exact (List.nodup_cons.mp h1).2
    intro i j n hi hj
    cases i with
    | zero =>
      cases j with
      | zero => rfl
      | succ j => exact (two j n (by simpa using hi) (by simpa using hj)).elim
    | succ i =>
      cases j with
      | zero => exact (two i n (by simpa using hj) (by simpa using hi)).elim
      | succ j => exact congrArg _ (ih nr i j n (by simpa using hi) (by simpa using hj))
theorem bdF_put (n : Int) (t : Bool) (d g : Addr) : putF "given" (.ref g) (putF "floors" (.ref d) (putF "is_turned" (.bl t) (putF "size" (.int n) []))) = bdF n t d g := by
  have a1 : ¬ (("size" : Str) = "is_turned") := by decide +kernel
  have a2 : ¬ (("size" : Str) = "floors") := by decide +kernel
  have a3 : ¬ (("size" : Str) = "given") := by decide +kernel
  have a4 : ¬ (("is_turned" : Str) = "floors") := by decide +kernel
  have a5 : ¬ (("is_turned" : Str) = "given") := by decide +kernel
  have a6 : ¬ (("floors" : Str) = "given") := by decide +kernel
  simp only [putF, if_neg a1, if_neg a2, if_neg a3, if_neg a4, if_neg a5, if_neg a6]
  rfl
def bdF2 (n : Int) (t : Bool) : List (Str × V) := putF "is_turned" (.bl t) (putF "size" (.int n) [])
theorem bdF2_size (n : Int) (t : Bool) : (bdF2 n t).lookup ("size" : Str) = some (V.int n) := by
  unfold bdF2; rw [lookup_putF, if_neg (by decide +kernel)]; rfl
theorem bdF2_turned (n : Int) (t : Bool) : (bdF2 n t).lookup ("is_turned" : Str) = some (V.bl t) := by
  unfold bdF2; rw [lookup_putF, if_pos rfl]
theorem bdF2_no (n : Int) (t : Bool) : (bdF2 n t).lookup ("turned" : Str) = none := by
  unfold bdF2; rw [lookup_putF, if_neg (by decide +kernel), lookup_putF, if_neg (by decide +kernel)]; rfl
def spBoard (C : Kd → Addr) (CB : Addr) : Sp := fun vs H Q _ => ∃ (p a b dx : Addr) (k : Kd) (rows : List (Str × Int)) (g : Gv Str) (B : Bd Str), vs = [.ref p, .ref a, .ref b] ∧ BookAt C H a k rows ∧ rows ≠ [] ∧ rows.length ≤ 40 ∧ (rows.map (·.1)).Nodup ∧ (∀ r ∈ rows, okItem r.1) ∧ H b = some (.lst (g.map vo)) ∧ Sok rows g ∧ Canon k rows B ∧ H p = some (.ins CB dx []) ∧
  ∀ H', (∀ b o, b ≠ p → H b = some o → H' b = some o) → BoardAt CB H' p B g → Q .non H'
section
variable {P : Program} {w : World} {K : PySem.W.Frag} {mg : Str → Option Value} {base : Heap} {C : Kd → Addr} {CB RC : Addr}
abbrev sBoard___init : Stmt := inClass (top 44) 0
abbrev NBoard___init : List Str := ["self", "log", "seen", "record"]
theorem scBoard___init : FnScope NBoard___init ["self", "log", "seen"] (defScope sBoard___init) := ⟨rfl, rfl, rfl, by decide +kernel, rfl, by decide +kernel, by decide +kernel⟩
-- 0 self*, 1 log, 2 seen, 3 record
theorem mak_board (F : DC K mg "Board" CB "Board.__init__" sBoard___init ["self", "log", "seen"]) (T : Txt K mg C CB RC) (c_item : ∀ k, Prp P w K mg base 1 (C k) "item" (spItem (C k))) (c_slot : ∀ k, Prp P w K mg base 1 (C k) "slot" (spSlot (C k))) (c_turned : C8.Met P w K mg base 1 CB "turned" (spTurned CB) []) : C8.Mak P w K mg base 3 "Board" CB (spBoard C CB) [] := by
  refine F.mak scBoard___init (fun vs H Q E h => ?_) (fun f cdv A outer s H vs Q E hr h => ?_)
  · obtain ⟨p, a, b, dx, k, rows, g, B, rfl, _⟩ := h
    rfl
  · obtain ⟨p, a, b, dx, k, rows, g, B, rfl, hB, hne, hl, hnd, hit, hb, ok, cn, hp, q⟩ := h
    obtain ⟨xs, hx, hxl, hat⟩ := hB.at
    refine ⟨_, (pss_cons (ps_fld (pv 0) (pe_callB (call_len_k K) (by rfl) T.len_ (by decide +kernel) (pa_cons (pv 1) pa_nil)) rfl)
      (pss_cons (ps_fld (pv 0) (pe_and (pe_cmpR (op_neLen_k K (hr_u hr)) (pv 1) (pe_lst pa_nil) (nomark _)) (pe_one (pe_callB (call_isi_k K) (by rfl) T.isinstance_ (by decide +kernel) (pa_cons (pe_ix (ix_list_k K) (pv 1) pe_int (fun _ _ => rfl)) (pa_cons (C8.pe_gc (by rfl) T.vFronted) pa_nil))))) rfl)
      (pss_cons (ps_fld (pv 0) (pe_dc (own := [("record", 3)]) rfl scBoard___init.nd (pi_list_k K (pv 1)) (blkOk_by (N := NBoard___init) (sc := defScope sBoard___init) (own := [("record", 3)]) (by decide +kernel)) (fun _ _ _ _ _ => (pg_name (i := 3) scBoard___init.nd rfl (Or.inl rfl))) (fun _ _ _ _ _ => pts_nil) (fun _ _ _ _ _ => (pe_pr (c_item k) (T.cl _) hr (by decide) (pv 3))) (fun _ _ _ _ _ => (C8.pe_mt c_turned hr (by decide) (pv 0) (pa_cons (pe_pr (c_slot k) (T.cl _) hr (by decide) (pv 3)) pa_nil)))) rfl)
      (pss_one (ps_fld (pv 0) (pe_ifExp (pt_cmpR op_isN (pv 2) pe_non (nomark _)) (pe_op op_rep (pe_lst (pa_cons pe_non pa_nil)) (pe_fld_k K (pv 0) rfl)) (pe_callTy (call_list_of_k K) (by rfl) T.list_ (by decide +kernel) (pa_cons (pv 2) pa_nil))) rfl))))), ?_⟩
    refine ⟨_, rfl, a, xs, rfl, .inl (Evl.sq_of hx), _, rfl, p, CB, dx, _, rfl, hp, T.clB, T.nB "size" (by decide), (by show 0 < 1000; decide), ?_⟩
    have a1 : ∀ (o : HO) (b : Addr), b ≠ p → (upd H p o) b = H b := fun o b h => upd_ne h
    have nap : a ≠ p := ne_of hx hp (by intro z; cases z)
    have nbp : b ≠ p := ne_of hb hp (by intro z; cases z)
    have xne : xs.length ≠ 0 := by rw [hxl]; exact fun z => hne (List.length_eq_zero_iff.mp z)
    obtain ⟨x0, hx0⟩ : ∃ x, xs[0]? = some x := ⟨xs[0], List.getElem?_eq_getElem (by omega)⟩
    obtain ⟨r0, n0, s0, rfl, _, d0, hr0⟩ := hat 0 x0 hx0
    have nr0 : r0 ≠ p := ne_of hr0 hp (by intro z; injection z with _ _ z; cases z)
    -- is_turned
    refine ⟨_, rfl, Nat.zero_le _, fun eD heD => ?_⟩
    have npe : p ≠ eD := fun z => by rw [← z, upd_same] at heD; cases heD
    have heH : H eD = none := by rw [upd_ne (fun z => npe z.symm)] at heD; exact heD
    have up1 : ∀ (c : Addr) (o : HO), c ≠ p → H c = some o → upd (upd H p (.ins CB dx (putF "size" (.int xs.length) []))) eD (.lst []) c = some o := fun c o h1 h2 => by
      rw [upd_ne (ne_of_none h2 heH), upd_ne h1]; exact h2
    have hp1 : upd (upd H p (.ins CB dx (putF "size" (.int xs.length) []))) eD (.lst []) p = some (.ins CB dx (putF "size" (.int xs.length) [])) := by rw [upd_ne npe, upd_same]
    generalize hH1 : upd (upd H p (.ins CB dx (putF "size" (.int xs.length) []))) eD (.lst []) = H1 at up1 hp1 ⊢
    refine ⟨a, eD, xs, [], rfl, rfl, Evl.sq_of (up1 _ _ nap hx), Evl.sq_of (by rw [← hH1]; exact upd_same), xne, true, rfl, iteT ?_⟩
    refine ⟨_, rfl, a, xs, _, _, rfl, rfl, Evl.sq_of (up1 _ _ nap hx), atI_nat (j := 0) hx0, ?_⟩
    refine ⟨_, _, _, _, k.isF, rfl, .own _, .base (.ins (up1 _ _ nr0 hr0) (T.cl k) (T.ii k).ha T.hn T.htk (T.ii k).hm), T.kF k, ?_⟩
    refine ⟨_, rfl, p, CB, dx, _, rfl, hp1, T.clB, T.nB "is_turned" (by decide), (by show 1 < 1000; decide), ?_⟩
    -- floors
    have up2 : ∀ (c : Addr) (o : HO), c ≠ p → H c = some o → upd H1 p (.ins CB dx (putF "is_turned" (.bl k.isF) (putF "size" (.int xs.length) []))) c = some o := fun c o h1 h2 => by
      rw [upd_ne h1]; exact up1 c o h1 h2
    have hp2 : upd H1 p (.ins CB dx (putF "is_turned" (.bl k.isF) (putF "size" (.int xs.length) []))) p = some (.ins CB dx (bdF2 xs.length k.isF)) := upd_same
    generalize hH2 : upd H1 p (.ins CB dx (putF "is_turned" (.bl k.isF) (putF "size" (.int xs.length) []))) = H2 at up2 hp2 ⊢
    refine ⟨_, rfl, a, rfl, ⟨_, Evl.sq_of (up2 _ _ nap hx)⟩, fun D hD => ?_⟩
    have nDp : D ≠ p := fun z => by rw [z, hp2] at hD; cases hD
    have hDH : H D = none := by
      cases z : H D with
      | none => rfl
      | some o => rw [up2 D o nDp z] at hD; cases hD
    refine dcP (walk_list (xs := xs)) (fun i => match rows[i]? with | some r => (Sum.inr r.1, .int (B.fl r.1)) | none => (Sum.inr "", .non)) (fun i j hi hj hij => ?_) hD (by omega) (fun H1 e => Evl.sq_of (e _ _ (up2 _ _ nap hx))) (fun i x H3 H' Qz Qn hi e y k1 => ?_) fun H3 e3 h3 => ?_
    · rw [List.getElem?_eq_getElem (by omega), List.getElem?_eq_getElem (by omega)] at hij
      have := Sum.inr.inj hij
      refine (List.getElem?_inj (l := rows.map (·.1)) (i := i) (j := j) (by simp; omega) hnd).mp ?_
      rw [List.getElem?_map, List.getElem?_map, List.getElem?_eq_getElem (by omega), List.getElem?_eq_getElem (by omega)]
      exact congrArg some this
    · obtain ⟨rfl, hxi⟩ := y
      obtain ⟨r, n, sl, rfl, hrow, dr, hr1⟩ := hat i x hxi
      have nrp : r ≠ p := ne_of hr1 hp (by intro z; injection z with _ _ z; cases z)
      have hr2 := e _ _ (up2 _ _ nrp hr1)
      have hp3 := e _ _ hp2
      refine ⟨rfl, iteT (B := Qn H') ?_⟩
      refine ⟨_, rfl, r, dr, _, rfl, hr2, r, dr, n, sl, rfl, hr2, ?_⟩
      refine ⟨_, rfl, p, dx, _, rfl, hp3, bdF2_no _ _, _, rfl, r, dr, _, rfl, hr2, r, dr, n, sl, rfl, hr2, p, dx, _, _, _, _, rfl, hp3, bdF2_size _ _, bdF2_turned _ _, ?_⟩
      refine k1 _ _ _ (Evl.Ex.refl _) (by rw [hrow]; rfl) ?_
      rw [hrow, hxl]
      exact congrArg V.int (cn.fl n sl (List.mem_of_getElem? hrow)).symm
    -- given
    have hp3 := e3 _ _ hp2
    refine ⟨_, rfl, p, CB, dx, _, rfl, hp3, T.clB, T.nB "floors" (by decide), (by show 2 < 1000; decide), ?_⟩
    have up3 : ∀ (c : Addr) (o : HO), c ≠ p → H c = some o → upd H3 p (.ins CB dx (putF "floors" (.ref D) (bdF2 xs.length k.isF))) c = some o := fun c o h1 h2 => by
      rw [upd_ne h1]; exact e3 _ _ (up2 c o h1 h2)
    refine ⟨_, rfl, rfl, false, rfl, iteF ?_⟩
    refine ⟨_, rfl, b, _, rfl, .inl (Evl.sq_of (up3 _ _ nbp hb)), fun G hG => ?_⟩
    have nGp : G ≠ p := fun z => by rw [z, upd_same] at hG; cases hG
    have nDG : D ≠ G := fun z => by rw [← z, upd_ne nDp, h3] at hG; cases hG
    refine ⟨_, rfl, p, CB, dx, _, rfl, (by rw [upd_ne (fun z => nGp z.symm)]; exact upd_same), T.clB, T.nB "given" (by decide), (by show 3 < 1000; decide), ?_⟩
    have hGH : H G = none := by
      cases z : H G with
      | none => rfl
      | some o => rw [up3 G o nGp z] at hG; cases hG
    refine q _ (fun c o h1 h2 => ?_) ⟨⟨dx, D, G, rows.map (·.1), ?_, ?_, cn.perm, ?_⟩, cn.asc, by rw [cn.len]; exact hl, ?_, fun n hn => ?_⟩
    · rw [upd_ne h1, upd_ne (ne_of_none h2 hGH)]; exact up3 c o h1 h2
    · rw [upd_same, cn.len, ← hxl, cn.tn, ← bdF_put]; rfl
    · rw [upd_ne nDp, upd_ne nDG, upd_ne nDp, h3, hxl]
      refine congrArg (fun z => some (HO.dK z)) ?_
      unfold flK
      rw [List.map_map]
      apply List.ext_getElem?
      intro i
      rw [List.getElem?_map, List.getElem?_map]
      by_cases hi : i < rows.length
      · rw [List.getElem?_range hi, List.getElem?_eq_getElem hi]
        simp [List.getElem?_eq_getElem hi]
      · rw [List.getElem?_eq_none (by simpa using hi), List.getElem?_eq_none (by simpa using hi)]; rfl
    · rw [upd_ne nGp, upd_same]
    · exact gok_sok ok cn.perm
    · obtain ⟨r, hr1, rfl⟩ := List.mem_map.mp (cn.perm.mem_iff.mpr hn)
      exact hit r hr1
end
end K21
/-! ## D1 -/
set_option Elab.async false
set_option linter.all false
set_option maxRecDepth 100000
set_option maxHeartbeats 4000000
/-! Values as data. -/
namespace K21
open PySem PySem.Spec PyProof.Rows L2
/-! ### equality of data without truths -/
mutual
def pure0 : PyData → Bool
  | .none => true
  | .bool _ => false
  | .int _ => true
  | .str x => x.cps.all (· < 0x110000)
  | .list xs => pureAll xs
  | .tuple xs => pureAll xs
  | .dict _ => false
def pureAll : List PyData → Bool
  | [] => true
  | x :: r => pure0 x && pureAll r
end
mutual
theorem pure_lay : ∀ d : PyData, pure0 d = true → PyData.canLay0 d = true
  | .none, _ => by simp [PyData.canLay0]
  | .bool _, _ => by simp [PyData.canLay0]
  | .int _, _ => by simp [PyData.canLay0]
  | .str x, h => by rw [pure0] at h; rw [PyData.canLay0]; exact h
  | .list xs, h => by rw [pure0] at h; rw [PyData.canLay0]; exact pureAll_lay xs h
  | .tuple xs, h => by rw [pure0] at h; rw [PyData.canLay0]; exact pureAll_lay xs h
  | .dict _, h => by rw [pure0] at h; cases h
theorem pureAll_lay : ∀ ds : List PyData, pureAll ds = true → PyData.canLayAll0 ds = true
  | [], _ => by simp [PyData.canLayAll0]
  | d :: r, h => by
    rw [pureAll, Bool.and_eq_true] at h
    rw [PyData.canLayAll0, pure_lay d h.1, pureAll_lay r h.2]; rfl
end
mutual
theorem eqv_iff : ∀ d e : PyData, pure0 d = true → pure0 e = true → (PyData.eqv d e = true ↔ d = e)
  | .none, e, _, he => by cases e <;> first | (rw [pure0] at he; cases he; done) | simp [PyData.eqv]
  | .bool b, e, hd, _ => by rw [pure0] at hd; cases hd
  | .int i, e, _, he => by cases e <;> first | (rw [pure0] at he; cases he; done) | simp [PyData.eqv]
  | .str x, e, _, he => by cases e <;> first | (rw [pure0] at he; cases he; done) | simp [PyData.eqv]
  | .list xs, e, hd, he => by
    cases e with
    | list ys => rw [pure0] at hd he; rw [PyData.eqv, eqvAll_iff xs ys hd he]; simp
    | _ => first | (rw [pure0] at he; cases he; done) | simp [PyData.eqv]
  | .tuple xs, e, hd, he => by
    cases e with
    | tuple ys => rw [pure0] at hd he; rw [PyData.eqv, eqvAll_iff xs ys hd he]; simp
    | _ => first | (rw [pure0] at he; cases he; done) | simp [PyData.eqv]
  | .dict _, e, hd, _ => by rw [pure0] at hd; cases hd
theorem eqvAll_iff : ∀ ds es : List PyData, pureAll ds = true → pureAll es = true → (PyData.eqvAll ds es = true ↔ ds = es)
  | [], [], _, _ => by simp [PyData.eqvAll]
  | [], _ :: _, _, _ => by simp [PyData.eqvAll]
  | _ :: _, [], _, _ => by simp [PyData.eqvAll]
  | d :: ds, e :: es, hd, he => by
    rw [pureAll, Bool.and_eq_true] at hd he
    rw [PyData.eqvAll, Bool.and_eq_true, eqv_iff d e hd.1 he.1, eqvAll_iff ds es hd.2 he.2]; simp
end
theorem pureAll_map {β : Type} (l : List β) (f : β → PyData) (h : ∀ x ∈ l, pure0 (f x) = true) : pureAll (l.map f) = true := by
  induction l with
  | nil => rfl
  | cons a r ih =>
    rw [List.map_cons, pureAll, h a (by simp), ih fun x hx => h x (by simp [hx])]; rfl
theorem depthAll_map {β : Type} (l : List β) (f : β → PyData) (m : Nat) (h : ∀ x ∈ l, (f x).depth ≤ m) : PyData.depthAll (l.map f) ≤ m := by
  induction l with
  | nil => simp [PyData.depthAll]
  | cons a r ih =>
    rw [List.map_cons, PyData.depthAll]
    exact Nat.max_le.mpr ⟨h a (by simp), ih fun x hx => h x (by simp [hx])⟩
theorem shaped_of {d : PyData} (h : pure0 d = true) (hd : d.depth ≤ 64) : SeqAt.shaped d = true := by
  unfold SeqAt.shaped
  rw [pure_lay d h, decide_eq_true hd]; rfl
/-! ### values that read as data -/
theorem Dp.flat0 {K : PySem.W.Frag} {H : Hp} {n : Str} : Dp K H (.str n) (.str n) := .str n
mutual
theorem dp_ex {K : PySem.W.Frag} {H H' : Hp} (e : Ex H H') : ∀ (d : PyData) (v : V), Dp K H v d → Dp K H' v d
  | .none, _, h => by cases h; exact .non
  | .bool b, _, h => by cases h; exact .bl b
  | .int i, _, h => by cases h; exact .int i
  | .str x, _, h => by cases h; exact .str x
  | .list ds, _, h => by
    cases h with
    | lst h1 h2 => exact .lst (Evl.ex_l e h1) (dpa_ex e ds _ h2)
  | .tuple ds, _, h => by
    cases h with
    | tup h1 h2 => exact .tup (Evl.ex_t e h1) (dpa_ex e ds _ h2)
  | .dict _, _, h => by cases h
theorem dpa_ex {K : PySem.W.Frag} {H H' : Hp} (e : Ex H H') : ∀ (ds : List PyData) (vs : List V), DpAll K H vs ds → DpAll K H' vs ds
  | [], _, h => by cases h; exact .nil
  | d :: ds, _, h => by
    cases h with
    | cons h1 h2 => exact .cons (dp_ex e d _ h1) (dpa_ex e ds _ h2)
end
theorem dpa_map {K : PySem.W.Frag} {H : Hp} {β : Type} (l : List β) (f : β → V) (g : β → PyData) (h : ∀ x ∈ l, Dp K H (f x) (g x)) : DpAll K H (l.map f) (l.map g) := by
  induction l with
  | nil => exact .nil
  | cons a r ih => exact .cons (h a (by simp)) (ih fun x hx => h x (by simp [hx]))
theorem dpa_len {K : PySem.W.Frag} {H : Hp} {vs : List V} {ds : List PyData} (h : DpAll K H vs ds) : vs.length = ds.length := by
  induction vs generalizing ds with
  | nil => cases h; rfl
  | cons v vs ih =>
    cases h with
    | cons h1 h2 => rw [List.length_cons, List.length_cons, ih h2]
theorem dpa_append {K : PySem.W.Frag} {H : Hp} {vs us : List V} {ds es : List PyData} (h : DpAll K H vs ds) (h2 : DpAll K H us es) : DpAll K H (vs ++ us) (ds ++ es) := by
  induction vs generalizing ds with
  | nil => cases h; exact h2
  | cons v vs ih =>
    cases h with
    | cons h1 h3 => exact .cons h1 (ih h3)
theorem dpa_get {K : PySem.W.Frag} {H : Hp} {vs : List V} {ds : List PyData} (h : DpAll K H vs ds) {i : Nat} {v : V} (hv : vs[i]? = some v) : ∃ d, ds[i]? = some d ∧ Dp K H v d := by
  induction vs generalizing ds i with
  | nil => simp at hv
  | cons u us ih =>
    cases h with
    | cons h1 h2 =>
      cases i with
      | zero => exact ⟨_, rfl, by cases hv; exact h1⟩
      | succ i => exact ih h2 hv
abbrev dS (n : Str) : PyData := .str n
abbrev dI (i : Int) : PyData := .int i
def dO : Option Str → PyData
  | none => .none
  | some n => .str n
theorem dp_strs {K : PySem.W.Frag} {H : Hp} {p : Addr} {l : List Str} (h : H p = some (.lst (l.map V.str))) : Dp K H (.ref p) (.list (l.map dS)) := .lst (Evl.sq_of h) (dpa_map l _ _ fun x _ => .str x)
theorem dp_ints {K : PySem.W.Frag} {H : Hp} {p : Addr} {l : List Int} (h : H p = some (.lst (l.map V.int))) : Dp K H (.ref p) (.list (l.map dI)) := .lst (Evl.sq_of h) (dpa_map l _ _ fun x _ => .int x)
theorem map_inj {β γ : Type} {f : β → γ} (hf : ∀ a b, f a = f b → a = b) : ∀ {l m : List β}, l.map f = m.map f → l = m
  | [], [], _ => rfl
  | [], _ :: _, h => by cases h
  | _ :: _, [], h => by cases h
  | a :: l, b :: m, h => by
    rw [List.map_cons, List.map_cons] at h
    injection h with h1 h2
    rw [hf _ _ h1, map_inj hf h2]
/-- letters are characters -/
theorem item_pure {n : Str} (h : okItem n) : pure0 (dS n) = true := by
  show pure0 (.str n) = true
  rw [pure0, Array.all_eq_true_iff_forall_mem]
  intro c hc
  have := h.2.2 c (Array.mem_toList_iff.mpr hc)
  have e : letters.cps.toList = [97, 98, 99, 100, 101, 102, 103, 104, 105, 106, 107, 108, 109, 110, 111, 112, 113, 114, 115, 116, 117, 118, 119, 120, 121, 122] := by decide +kernel
  rw [e] at this
  have : c ≤ 122 := by
    simp only [List.mem_cons, List.not_mem_nil, or_false] at this
    omega
  simp; omega
section
variable {X : Cx}
/-- a list and an empty one -/
def rNeNil (K : PySem.W.Frag) : R2 := fun x y H Q => ∃ a b xs, x = .ref a ∧ y = .ref b ∧ SqL K H a xs ∧ SqL K H b [] ∧ Q (.bl (!xs.isEmpty)) H
def rEqNil (K : PySem.W.Frag) : R2 := fun x y H Q => ∃ a b xs, x = .ref a ∧ y = .ref b ∧ SqL K H a xs ∧ SqL K H b [] ∧ Q (.bl xs.isEmpty) H
theorem op_neNil (hu : X.A.units + 64 < cLine) : OpR X (compareOp .NotEq) (rNeNil X.K) := by
  intro pins s σ H x y v u Q I rx ry h
  obtain ⟨a, b, xs, rfl, rfl, ha, hb, q⟩ := h
  cases xs with
  | nil => exact op_neD hu pins s σ H _ _ v u Q I rx ry ⟨_, _, .lst ha .nil, .lst hb .nil, by decide, by decide, q⟩
  | cons z r => exact op_neLen hu pins s σ H _ _ v u Q I rx ry ⟨a, b, _, _, rfl, rfl, ha, hb, by simp, q⟩
theorem op_neNil_k (K : PySem.W.Frag) (hu : X.A.units + 64 < cLine) (h : X.K = K := by rfl) : OpR X (compareOp .NotEq) (rNeNil K) := by subst h; exact op_neNil hu
end
end K21
/-! ## W7 -/
set_option Elab.async false
set_option linter.all false
set_option maxRecDepth 100000
set_option maxHeartbeats 4000000
/-! board_of; counts; options; conflicts. -/
namespace K21
open PySem PySem.Spec PyProof.Rows L2
/-- what the functions are asked of: a log, a seen list, the board -/
structure Asked (C : Kd → Addr) (H : Hp) (a b : Addr) (k : Kd) (rows : List (Str × Int)) (g : Gv Str) (B : Bd Str) : Prop where
  book : BookAt C H a k rows
  ne : rows ≠ []
  few : rows.length ≤ 40
  nd : (rows.map (·.1)).Nodup
  its : ∀ r ∈ rows, okItem r.1
  seen : H b = some (.lst (g.map vo))
  ok : Sok rows g
  cn : Canon k rows B
theorem Asked.ex {C : Kd → Addr} {H H' : Hp} {a b : Addr} {k : Kd} {rows : List (Str × Int)} {g : Gv Str} {B : Bd Str} (h : Asked C H a b k rows g B) (e : Ex H H') : Asked C H' a b k rows g B :=
  ⟨h.book.ex e, h.ne, h.few, h.nd, h.its, e _ _ h.seen, h.ok, h.cn⟩
def spBoardOf (C : Kd → Addr) (CB : Addr) : Sp := fun vs H Q _ => ∃ (a b : Addr) (k : Kd) (rows : List (Str × Int)) (g : Gv Str) (B : Bd Str), vs = [.ref a, .ref b] ∧ Asked C H a b k rows g B ∧
  ∀ p H', H p = none → Ex H H' → BoardAt CB H' p B g → Q (.ref p) H'
/-- asked of a board and what is given -/
structure Gvn (CB : Addr) (H : Hp) (p a : Addr) (B : Bd Str) (g' : Gv Str) : Prop where
  bd : ∃ g, BoardAt CB H p B g
  gv : H a = some (.lst (g'.map vo))
  ok : Gok B.ns g'
theorem Gvn.ex {CB : Addr} {H H' : Hp} {p a : Addr} {B : Bd Str} {g' : Gv Str} (h : Gvn CB H p a B g') (e : Ex H H') : Gvn CB H' p a B g' := by
  obtain ⟨g, hb⟩ := h.bd
  exact ⟨⟨g, hb.mono e⟩, e _ _ h.gv, h.ok⟩
def spCountFilled (CB : Addr) : Sp := fun vs H Q _ => ∃ (p a : Addr) (B : Bd Str) (g' : Gv Str), vs = [.ref p, .ref a] ∧ Gvn CB H p a B g' ∧ ∀ H', Ex H H' → Q (.int (cnt B g')) H'
def spWithItem : Sp := fun vs H Q _ => ∃ (a : Addr) (i : Nat) (v : V) (xs : List V), vs = [.ref a, .int (i : Nat), v] ∧ H a = some (.lst xs) ∧ i < xs.length ∧ xs.length ≤ 40 ∧ ∀ q H', H q = none → Ex H H' → H' q = some (.lst (xs.set i v)) → Q (.ref q) H'
theorem cut_take (xs : List V) (i : Nat) (h : i ≤ xs.length) : cutV xs none (some (i : Int)) = xs.take i := by
  unfold cutV
  rw [HT.sIx_none, HT.sIx_nat, List.drop_zero, Nat.min_eq_left h, Nat.sub_zero]
theorem cut_drop (xs : List V) (i : Nat) (h : i ≤ xs.length) : cutV xs (some (i : Int)) none = xs.drop i := by
  unfold cutV
  rw [HT.sIx_none, HT.sIx_nat, Nat.min_eq_left h]
  exact List.take_of_length_le (by rw [List.length_drop]; exact Nat.le_refl _)
theorem prod_cut (c : Nat → Nat) : ∀ (ps : List Nat) (j : Nat), NP c j ps = prodI ((List.range ps.length).map fun i => match ps[i]? with | some p => max 0 ((c p : Int) - ((j + i : Nat) : Int)) | none => 1)
  | [], _ => rfl
  | p :: ps, j => by
    rw [NP, prod_cut c ps (j + 1), List.length_cons, List.range_succ_eq_map, List.map_cons, List.map_map]
    show _ = prodI (_ :: _)
    rw [prodI]
    congr 1
    congr 1
    refine List.map_congr_left fun i _ => ?_
    show _ = match (p :: ps)[i + 1]? with | some p => _ | none => _
    rw [List.getElem?_cons_succ]
    cases ps[i]? with
    | none => rfl
    | some q =>
      show max 0 _ = max 0 _
      have : j + 1 + i = j + (i + 1) := by omega
      rw [this]
section
variable {X : Cx}
theorem ip_mulY : PIp X .Mult (rI CMul fun i j => .int (i * j)) := by
  intro pins s σ H a b v u Q I r1 r2 h
  obtain ⟨i, j, rfl, rfl, hc, q⟩ := h
  obtain ⟨t, rfl⟩ := r1
  obtain ⟨t', rfl⟩ := r2
  exact imul_int ⟨.int _, H, I.tok _, ⟨_, rfl⟩, q⟩ hc.ok
end
theorem prodI_one (l : List Int) (x : Int) : prodI (l ++ [x]) = prodI l * x := by
  rw [prodI_append]; simp [prodI]
section
variable {P : Program} {w : World} {K : PySem.W.Frag} {mg : Str → Option Value} {base : Heap} {C : Kd → Addr} {CB RC : Addr}
abbrev sboard_of : Stmt := top 45
abbrev Nboard_of : List Str := ["log", "seen"]
theorem scboard_of : FnScope Nboard_of ["log", "seen"] (defScope sboard_of) := ⟨rfl, rfl, rfl, by decide +kernel, rfl, by decide +kernel, by decide +kernel⟩
-- 0 log, 1 seen
theorem cal_board_of (F : DF K mg "board_of" sboard_of ["log", "seen"]) (T : Txt K mg C CB RC) (c_need_log : C8.Cal P w K mg base 5 "need_log" (spNeedLog C) []) (c_need_seen : C8.Cal P w K mg base 3 "need_seen" (spNeedSeen C) []) (c_Board : C8.Mak P w K mg base 3 "Board" CB (spBoard C CB) []) : C8.Cal P w K mg base 6 "board_of" (spBoardOf C CB) [] := by
  refine F.cal scboard_of (fun vs H Q E h => ?_) (fun f cdv A outer s H vs Q E hr h => ?_)
  · obtain ⟨a, b, k, rows, g, B, rfl, _⟩ := h
    rfl
  · obtain ⟨a, b, k, rows, g, B, rfl, hA, q⟩ := h
    refine ⟨_, (pss_cons (ps_expr (C8.pe_c c_need_log hr (by decide) (by rfl) (pa_cons (pv 0) pa_nil)))
      (pss_cons (ps_expr (C8.pe_c c_need_seen hr (by decide) (by rfl) (pa_cons (pv 0) (pa_cons (pv 1) pa_nil))))
      (pss_one (ps_ret (C8.pe_mk c_Board hr (by decide) (by rfl) (pa_cons (pv 0) (pa_cons (pv 1) pa_nil))))))), ?_⟩
    refine ⟨_, rfl, a, k, rows, rfl, hA.book, hA.few, hA.nd, fun H1 e1 => ?_⟩
    have hA1 := hA.ex e1
    refine ⟨_, rfl, _, rfl, a, b, k, rows, g, rfl, hA1.book, hA1.few, hA1.seen, hA1.ok, fun H2 e2 => ?_⟩
    have hA2 := hA1.ex e2
    refine ⟨_, rfl, _, rfl, fun p dx hp hdx hne => ?_⟩
    have e3 : Ex H2 (upd (upd H2 dx (.own p)) p (.ins CB dx [])) := (Evl.Ex.new hdx).trans (Evl.Ex.new (by rw [upd_ne (fun z => hne z.symm)]; exact hp))
    have hA3 := hA2.ex e3
    refine ⟨p, a, b, dx, k, rows, g, B, rfl, hA3.book, hA3.ne, hA3.few, hA3.nd, hA3.its, hA3.seen, hA3.ok, hA3.cn, upd_same, fun H3 h3 hB => ⟨rfl, ?_⟩⟩
    refine q p H3 (Evl.fresh_back (e1.trans e2) hp) (fun b o hb => ?_) hB
    have hb2 := (e1.trans e2) _ _ hb
    have nb : b ≠ p := fun z => by rw [z, hp] at hb2; cases hb2
    exact h3 b o nb (e3 _ _ hb2)
abbrev swith_item : Stmt := top 47
abbrev Nwith_item : List Str := ["given", "position", "item"]
theorem scwith_item : FnScope Nwith_item ["given", "position", "item"] (defScope swith_item) := ⟨rfl, rfl, rfl, by decide +kernel, rfl, by decide +kernel, by decide +kernel⟩
-- 0 given, 1 position, 2 item
theorem cal_with_item (F : DF K mg "with_item" swith_item ["given", "position", "item"]) (T : Txt K mg C CB RC) : C8.Cal P w K mg base 1 "with_item" spWithItem [] := by
  refine F.cal scwith_item (fun vs H Q E h => ?_) (fun f cdv A outer s H vs Q E hr h => ?_)
  · obtain ⟨a, i, v, xs, rfl, _⟩ := h
    rfl
  · obtain ⟨a, i, v, xs, rfl, ha, hi, hl, q⟩ := h
    refine ⟨_, (pss_one (ps_ret (pe_lst (StX.pa_star (pe_slice sl_list (pv 0) po_none (po_some (pv 1))) (pa_cons (pv 2) (StX.pa_star (pe_slice sl_list (pv 0) (po_some (pe_op op_add (pv 1) pe_int)) po_none) pa_nil)))))), ?_⟩
    have eA : ∀ (z : Addr) (o : HO), H z = none → (upd H z o) a = some (.lst xs) := fun z o hz => by rw [upd_ne (ne_of_none ha hz)]; exact ha
    refine ⟨_, rfl, _, rfl, _, rfl, a, xs, rfl, Evl.sq_of ha, fun p1 hp1 => ?_⟩
    have e1 : Ex H (upd H p1 (.lst (cutV xs none (some (i : Int))))) := Evl.Ex.new hp1
    refine ⟨p1, _, rfl, .inr (Evl.sq_of upd_same), _, rfl, _, rfl, _, rfl, _, _, rfl, rfl, _, rfl, a, xs, rfl, Evl.sq_of (e1 _ _ ha), fun p2 hp2 => ?_⟩
    have e2 := e1.trans (Evl.Ex.new hp2 (o := .lst (cutV xs (some ((i : Int) + 1)) none)))
    refine ⟨p2, _, rfl, .inr (Evl.sq_of upd_same), ?_⟩
    have e0 : cutV xs none (some (i : Int)) ++ (v :: (cutV xs (some ((i : Int) + 1)) none ++ [])) = xs.set i v := by
      have := cut_drop xs (i + 1) (by omega)
      rw [List.append_nil, cut_take xs i (by omega), show ((i : Int) + 1) = ((i + 1 : Nat) : Int) from rfl, this]
      exact (List.set_eq_take_append_cons_drop.trans (if_pos hi)).symm
    refine ⟨?_, fun p3 hp3 => ?_⟩
    · rw [e0, List.length_set]; exact Nat.le_trans hl (by decide)
    · rw [e0]
      exact q p3 _ (Evl.fresh_back e2 hp3) (e2.trans (Evl.Ex.new hp3)) upd_same
abbrev scount_filled : Stmt := top 46
abbrev Ncount_filled : List Str := ["board", "given", "found", "place", "spare"]
theorem sccount_filled : FnScope Ncount_filled ["board", "given"] (defScope scount_filled) := ⟨rfl, rfl, rfl, by decide +kernel, rfl, by decide +kernel, by decide +kernel⟩
-- 0 board, 1 given, 2 found, 3 place, 4 spare
theorem cal_count_filled (F : DF K mg "count_filled" scount_filled ["board", "given"]) (T : Txt K mg C CB RC) (c_far_items : C8.Met P w K mg base 1 CB "far_items" (spFar CB) []) (c_wrong_positions : C8.Met P w K mg base 2 CB "wrong_positions" (spWrong CB) []) (c_spares : C8.Met P w K mg base 3 CB "spares" (spSpares CB) []) : C8.Cal P w K mg base 4 "count_filled" (spCountFilled CB) [] := by
  refine F.cal sccount_filled (fun vs H Q E h => ?_) (fun f cdv A outer s H vs Q E hr h => ?_)
  · obtain ⟨p, a, B, g', rfl, _⟩ := h
    rfl
  · obtain ⟨p, a, B, g', rfl, hG, q⟩ := h
    obtain ⟨g, hB⟩ := hG.bd
    obtain ⟨dx, d, gl, l, hp, hd, hl, hg⟩ := hB.ex
    have bdm := bd_m B.ns.length B.tn d gl
    refine ⟨_, (pss_cons (ps_if (PW.pt (pw_or (pt_cmpR (op_neNil_k K (hr_u hr)) (C8.pe_mt0 c_far_items hr (by decide) (pv 0)) (pe_lst pa_nil) (nomark _)) (pw_or1 (pt_cmpR (op_neNil_k K (hr_u hr)) (C8.pe_mt c_wrong_positions hr (by decide) (pv 0) (pa_cons (pv 1) pa_nil)) (pe_lst pa_nil) (nomark _))))) (pss_one (ps_ret pe_int)) pss_nil)
      (pss_cons (ps_set (i := 2) sccount_filled.nd rfl (Or.inl rfl) pe_int)
      (pss_cons (ps_for PassesOwn.never rfl (pi_list_k K (C8.pe_mt c_spares hr (by decide) (pv 0) (pa_cons (pv 1) pa_nil))) (pg_tup_k K (n := 2) rfl (pgs_cons (pg_name (i := 3) sccount_filled.nd rfl (Or.inl rfl)) (pgs_cons (pg_name (i := 4) sccount_filled.nd rfl (Or.inl rfl)) pgs_nil))) (pss_one (ps_aug (i := 2) sccount_filled.nd rfl (Or.inl rfl) (pe_callB (call_max2 rfl) (by rfl) T.max_ (by decide +kernel) (pa_cons pe_int (pa_cons (pv 4) pa_nil))) ip_mulY)))
      (pss_one (ps_ret (pv 2)))))), ?_⟩
    refine ⟨_, rfl, p, dx, _, rfl, hp, bdm _ (by decide), p, B, g, rfl, hB, fun fA H1 xs _ e1 h1 _ hfar => ?_⟩
    have nil_ne : ∀ (Z : Hp) (z : Addr), Z z = none → Ex Z (upd Z z (.lst [])) := fun Z z h => Evl.Ex.new h
    refine ⟨Nat.zero_le _, fun z1 hz1 => ?_⟩
    have e2 := e1.trans (nil_ne _ _ hz1)
    refine ⟨fA, z1, _, rfl, rfl, Evl.sq_of ((nil_ne _ _ hz1) _ _ h1), Evl.sq_of upd_same, _, rfl, ?_⟩
    cases hf : farB B with
    | true =>
      have xne : xs ≠ [] := fun z => by rw [hfar.mp z] at hf; cases hf
      have : (!(xs.map V.str).isEmpty) = true := by cases xs with
        | nil => exact absurd rfl xne
        | cons _ _ => rfl
      rw [this]
      refine iteT (iteT ?_)
      have : cnt B g' = 0 := by unfold cnt; rw [hf]; rfl
      rw [← this]
      exact q _ e2
    | false =>
      have : xs = [] := hfar.mpr hf
      subst this
      refine iteF ?_
      refine ⟨_, rfl, p, dx, _, rfl, e2 _ _ hp, bdm _ (by decide), _, rfl, p, a, B, g, g', rfl, hB.mono e2, e2 _ _ hG.gv, hG.ok, fun wA H2 ys _ e3 h3 _ hwr => ?_⟩
      refine ⟨Nat.zero_le _, fun z2 hz2 => ?_⟩
      have e4 := (e2.trans e3).trans (nil_ne _ _ hz2)
      refine ⟨wA, z2, _, rfl, rfl, Evl.sq_of ((nil_ne _ _ hz2) _ _ h3), Evl.sq_of upd_same, _, rfl, ?_⟩
      cases hw : wrongB B.fl (pl B.tn g') with
      | true =>
        have xne : ys ≠ [] := fun z => by rw [hwr.mp z] at hw; cases hw
        have : (!(ys.map fun i => V.int (i : Nat)).isEmpty) = true := by cases ys with
          | nil => exact absurd rfl xne
          | cons _ _ => rfl
        rw [this]
        refine iteT ?_
        have : cnt B g' = 0 := by unfold cnt; rw [hf, hw]; rfl
        rw [← this]
        exact q _ e4
      | false =>
        have : ys = [] := hwr.mpr hw
        subst this
        refine iteF ?_
        refine ⟨_, rfl, p, dx, _, rfl, e4 _ _ hp, bdm _ (by decide), _, rfl, p, a, B, g, g', rfl, hB.mono e4, e4 _ _ hG.gv, hG.ok, fun sA H3 _ e5 hS => ?_⟩
        obtain ⟨ts, h5, htl, hts⟩ := hS
        have e6 := e4.trans e5
        have ec : cnt B g' = NP (fits B.fl (wait B.ns g')) 0 (free (pl B.tn g')) := by unfold cnt; rw [hf, hw]; rfl
        rw [prod_cut] at ec
        have few := hB.few
        have fl40 : (free (pl B.tn g')).length ≤ 40 := by have := free_len (pl B.tn g'); rw [pl_len, hG.ok.len] at this; omega
        have hfit : ∀ c, (fits B.fl (wait B.ns g') c) ≤ 40 := fun c => by
          have h1 := fits_le B.fl (wait B.ns g') c
          have h2 : (wait B.ns g').length ≤ B.ns.length := List.length_filter_le _ _
          omega
        refine ⟨sA, rfl, ⟨_, Evl.sq_of h5⟩, for_it (walk_list (xs := ts)) (fun i σ H4 => ∃ y3 y4, H4 = H3 ∧ σ = [some (.ref p), some (.ref a), some (.int (prodI ((List.range i).map fun i => match (free (pl B.tn g'))[i]? with | some c => max 0 ((fits B.fl (wait B.ns g') c : Int) - ((0 + i : Nat) : Int)) | none => 1))), y3, y4])
          ⟨none, none, rfl, rfl⟩ (fun i σ H4 _ P => ?_) (fun i x σ H4 H' hi P y => ?_) fun σ H4 P => ?_⟩
        · obtain ⟨_, _, rfl, _⟩ := P
          exact Evl.sq_of h5
        · obtain ⟨y3, y4, rfl, rfl⟩ := P
          obtain ⟨rfl, hx⟩ := y
          obtain ⟨t, c, rfl, hc, ht⟩ := hts i x hx
          refine ⟨t, _, rfl, .inl (.inl ht), rfl, _, _, rfl, _, _, rfl, rfl, ?_⟩
          have step : prodI ((List.range (i + 1)).map fun i => match (free (pl B.tn g'))[i]? with | some c => max 0 ((fits B.fl (wait B.ns g') c : Int) - ((0 + i : Nat) : Int)) | none => 1) =
              prodI ((List.range i).map fun i => match (free (pl B.tn g'))[i]? with | some c => max 0 ((fits B.fl (wait B.ns g') c : Int) - ((0 + i : Nat) : Int)) | none => 1) * (if ((fits B.fl (wait B.ns g') c : Nat) - (i : Int) : Int) > 0 then ((fits B.fl (wait B.ns g') c : Nat) - (i : Int) : Int) else 0) := by
            rw [List.range_succ, List.map_append, List.map_cons, List.map_nil, prodI_one, hc]
            congr 1
            show max 0 _ = _
            split <;> omega
          refine ⟨_, rfl, _, rfl, _, _, rfl, _, _, rfl, rfl, ?_, some (V.int (c : Nat)), some (V.int ((fits B.fl (wait B.ns g') c : Nat) - (i : Int))), rfl, ?_⟩
          · have := hfit c
            refine .inr ?_
            split <;> omega
          · rw [step]; rfl
        · obtain ⟨y3, y4, rfl, rfl⟩ := P
          refine ⟨_, rfl, ?_⟩
          rw [htl, ← ec]
          exact q _ e6
end
end K21
/-! ## W8 -/
set_option Elab.async false
set_option linter.all false
set_option maxRecDepth 100000
set_option maxHeartbeats 4000000
/-! Options, conflicts. -/
namespace K21
open PySem PySem.Spec PyProof.Rows L2
/-- a list of new pairs of a text and a number -/
structure PairsIn (H : Hp) (ts : List V) (os : List (Str × Int)) : Prop where
  len : ts.length = os.length
  at_ : ∀ (i : Nat) x, ts[i]? = some x → ∃ t n c, x = .ref t ∧ os[i]? = some (n, c) ∧ H t = some (.tup [.str n, .int c])
theorem PairsIn.ex {H H' : Hp} {ts : List V} {os : List (Str × Int)} (h : PairsIn H ts os) (e : Ex H H') : PairsIn H' ts os :=
  ⟨h.len, fun i x hx => by obtain ⟨t, n, c, h1, h2, h3⟩ := h.at_ i x hx; exact ⟨t, n, c, h1, h2, e _ _ h3⟩⟩
theorem PairsIn.nil {H : Hp} : PairsIn H [] [] := ⟨rfl, fun i x hx => by simp at hx⟩
theorem PairsIn.snoc {H : Hp} {ts : List V} {os : List (Str × Int)} (h : PairsIn H ts os) {t : Addr} {n : Str} {c : Int} (ht : H t = some (.tup [.str n, .int c])) : PairsIn H (ts ++ [.ref t]) (os ++ [(n, c)]) := by
  refine ⟨by rw [List.length_append, List.length_append, h.len]; rfl, fun i x hx => ?_⟩
  by_cases z : i < ts.length
  · rw [List.getElem?_append_left z] at hx
    obtain ⟨t2, n2, c2, h1, h2, h3⟩ := h.at_ i x hx
    exact ⟨t2, n2, c2, h1, by rw [List.getElem?_append_left (by rw [← h.len]; exact z)]; exact h2, h3⟩
  · have z2 : i = ts.length := by
      have := (List.getElem?_eq_some_iff.mp hx).1
      simp at this; omega
    subst z2
    rw [List.getElem?_append_right (Nat.le_refl _)] at hx
    simp at hx
    refine ⟨t, n, c, hx.symm, ?_, ht⟩
    rw [h.len, List.getElem?_append_right (Nat.le_refl _)]; simp
def spOptions (CB : Addr) : Sp := fun vs H Q _ => ∃ (p a : Addr) (i : Nat) (B : Bd Str) (g' : Gv Str), vs = [.ref p, .ref a, .int (i : Nat)] ∧ Gvn CB H p a B g' ∧ g'[i]? = some none ∧
  ∀ q H' ts, H q = none → Ex H H' → H' q = some (.lst ts) → PairsIn H' ts (opts B g' i) → Q (.ref q) H'
section
variable {P : Program} {w : World} {K : PySem.W.Frag} {mg : Str → Option Value} {base : Heap} {C : Kd → Addr} {CB RC : Addr}
abbrev soptions : Stmt := top 48
abbrev Noptions : List Str := ["board", "given", "position", "found", "item", "lists"]
theorem scoptions : FnScope Noptions ["board", "given", "position"] (defScope soptions) := ⟨rfl, rfl, rfl, by decide +kernel, rfl, by decide +kernel, by decide +kernel⟩
-- 0 board, 1 given, 2 position, 3 found, 4 item, 5 lists
theorem cal_options (F : DF K mg "options" soptions ["board", "given", "position"]) (T : Txt K mg C CB RC) (c_count_filled : C8.Cal P w K mg base 4 "count_filled" (spCountFilled CB) []) (c_with_item : C8.Cal P w K mg base 1 "with_item" spWithItem []) : C8.Cal P w K mg base 5 "options" (spOptions CB) [] := by
  refine F.cal scoptions (fun vs H Q E h => ?_) (fun f cdv A outer s H vs Q E hr h => ?_)
  · obtain ⟨p, a, i, B, g', rfl, _⟩ := h
    rfl
  · obtain ⟨p, a, pos, B, g', rfl, hG, hpos, q⟩ := h
    obtain ⟨g, hB⟩ := hG.bd
    obtain ⟨dx, d, gl, l, hp, hd, hl, hg⟩ := hB.ex
    have few := hB.few
    have hposl := (List.getElem?_eq_some_iff.mp hpos).1
    have hgl : g'.length ≤ 40 := by rw [hG.ok.len]; exact few
    refine ⟨_, (pss_cons (ps_set (i := 3) scoptions.nd rfl (Or.inl rfl) (pe_lst pa_nil))
      (pss_cons (ps_for PassesOwn.never rfl (pi_list_k K (pe_callB (call_sortedD rfl) (by rfl) T.sorted_ (by decide +kernel) (pa_cons (pe_fld_k K (pv 0) rfl) pa_nil))) (pg_name (i := 4) scoptions.nd rfl (Or.inl rfl)) (pss_one (ps_if (pt_cmpR (op_notIn_seq_k K) (pv 4) (pv 1) (by rfl)) (pss_cons (ps_set (i := 5) scoptions.nd rfl (Or.inl rfl) (C8.pe_c c_count_filled hr (by decide) (by rfl) (pa_cons (pv 0) (pa_cons (C8.pe_c c_with_item hr (by decide) (by rfl) (pa_cons (pv 1) (pa_cons (pv 2) (pa_cons (pv 4) pa_nil)))) pa_nil))))
      (pss_one (ps_if (pt_cmpR op_gt (pv 5) pe_int (nomark _)) (pss_one (ps_expr (pe_bm_k K PySem.F.plainAttrs_list PySem.F.slot_list_append PySem.F.type_list_append mt_append (pv 3) (pa_cons (pe_tup (pa_cons (pv 4) (pa_cons (pv 5) pa_nil))) pa_nil)))) pss_nil))) pss_nil)))
      (pss_one (ps_ret (pv 3))))), ?_⟩
    refine ⟨Nat.zero_le _, fun D hD => ?_⟩
    have e1 : Ex H (upd H D (.lst [])) := Evl.Ex.new hD
    refine ⟨_, rfl, p, CB, dx, _, _, rfl, e1 _ _ hp, T.clB, T.nB "floors" (by decide), bd_floors _ _ _ _, ?_⟩
    refine ⟨d, _, l, rfl, .inl (e1 _ _ hd), by unfold flK; rw [List.map_map]; rfl, (by rw [hl.length_eq]; omega), fun ys sA hperm hys hsA => ?_⟩
    have eys : ys = B.ns := sorted_the hys (hperm.trans hl) hB.asc
    subst eys
    have e2 : Ex (upd H D (.lst [])) (upd (upd H D (.lst [])) sA (.lst (B.ns.map V.str))) := Evl.Ex.new hsA
    have nDs : D ≠ sA := fun z => by rw [← z, upd_same] at hsA; cases hsA
    refine ⟨sA, rfl, ⟨_, Evl.sq_of upd_same⟩, for_it (walk_list (xs := B.ns.map V.str)) (fun i σ H1 => ∃ ts y4 y5, σ = [some (.ref p), some (.ref a), some (.int (pos : Nat)), some (.ref D), y4, y5] ∧ Ex (del (upd (upd H D (.lst [])) sA (.lst (B.ns.map V.str))) D) (del H1 D) ∧ H1 D = some (.lst ts) ∧ PairsIn (del H1 D) ts ((B.ns.take i).filterMap (optF B g' pos)))
      ⟨[], none, none, rfl, Evl.Ex.refl _, by rw [upd_ne nDs, upd_same], PairsIn.nil⟩ (fun i σ H1 _ P => ?_) (fun i x σ H1 H' hi P y => ?_) fun σ H1 P => ?_⟩
    · obtain ⟨ts, y4, y5, rfl, e3, _⟩ := P
      exact Evl.sq_of (del_sub _ _ (e3 _ _ (by rw [del_ne (fun z => nDs z.symm)]; exact upd_same)))
    · obtain ⟨ts, y4, y5, rfl, e3, h1, hP⟩ := P
      obtain ⟨rfl, hx⟩ := y
      rw [List.getElem?_map] at hx
      obtain ⟨n, hn, rfl⟩ := Option.map_eq_some_iff.mp hx
      have eH : Ex H H' := fun b o q => by
        have nb : b ≠ D := fun z => by rw [z, hD] at q; cases q
        exact del_sub _ _ (e3 _ _ (by rw [del_ne nb]; exact e2 _ _ (e1 _ _ q)))
      have htk : (B.ns.take (i + 1)).filterMap (optF B g' pos) = (B.ns.take i).filterMap (optF B g' pos) ++ (optF B g' pos n).toList := by
        rw [List.take_add_one, hn]
        simp only [List.filterMap_append, Option.toList_some, List.filterMap_cons, List.filterMap_nil]
        cases optF B g' pos n <;> rfl
      refine ⟨_, rfl, _, rfl, a, _, rfl, .inl (Evl.sq_of (eH _ _ hG.gv)), rfl, flat_vo g', _, rfl, ?_⟩
      rw [if_pos rfl]
      have ei : inV (V.str n) (g'.map vo) = decide (some n ∈ g') := inV_vo
      rw [ei]
      by_cases c : some n ∈ g'
      · rw [decide_eq_true c]
        refine iteF ⟨ts, _, _, rfl, e3, h1, ?_⟩
        have : optF B g' pos n = none := by unfold optF; rw [if_pos c]
        rw [htk, this]; simpa using hP
      · rw [decide_eq_false c]
        refine iteT ?_
        have hnm : n ∈ B.ns := List.mem_of_getElem? hn
        refine ⟨_, rfl, _, rfl, _, rfl, _, rfl, a, pos, .str n, _, rfl, eH _ _ hG.gv, by rw [List.length_map]; exact hposl, by rw [List.length_map]; exact hgl, fun wA H2 hwA e5 h2 => ?_⟩
        have eH2 := eH.trans e5
        have h2' : H2 wA = some (.lst ((g'.set pos (some n)).map vo)) := by rw [h2, List.map_set]; rfl
        refine ⟨p, wA, B, g'.set pos (some n), rfl, ⟨(hG.ex eH2).bd, h2', hG.ok.set hnm c⟩, fun H3 e6 => ?_⟩
        have e7 := e5.trans e6
        have h3 : H3 D = some (.lst ts) := e7 _ _ h1
        refine ⟨_, rfl, _, _, rfl, rfl, _, rfl, ?_⟩
        by_cases c2 : 0 < cnt B (g'.set pos (some n))
        · rw [decide_eq_true (show cnt B (g'.set pos (some n)) > 0 from c2)]
          refine iteT ?_
          refine ⟨_, rfl, .inl ⟨rfl, _, Evl.sq_of h3⟩, _, rfl, _, rfl, (by show 2 ≤ sizeLine; decide), fun t ht => ?_⟩
          have eT : Ex H3 (upd H3 t (.tup [.str n, .int (cnt B (g'.set pos (some n)))])) := Evl.Ex.new ht
          have nDt : D ≠ t := fun z => by rw [← z, h3] at ht; cases ht
          have e8 : Ex (del H' D) (del (upd (upd H3 t (.tup [.str n, .int (cnt B (g'.set pos (some n)))])) D (.lst (ts ++ [.ref t]))) D) := by
            rw [del_upd]; exact del_ex (e7.trans eT)
          have hts : ts.length < sizeLine := by
            have := List.length_filterMap_le (optF B g' pos) (B.ns.take i)
            rw [← hP.len, List.length_take] at this
            exact Nat.lt_of_le_of_lt (by omega : ts.length ≤ 40) (by decide)
          refine ⟨D, ts, _, rfl, rfl, eT _ _ h3, hts, ts ++ [.ref t], _, _, rfl, e3.trans e8, upd_same, ?_⟩
          have : optF B g' pos n = some (n, cnt B (g'.set pos (some n))) := by unfold optF; rw [if_neg c, if_pos c2]
          rw [htk, this]
          refine PairsIn.snoc (hP.ex e8) ?_
          rw [del_upd, del_ne (fun z => nDt z.symm)]; exact upd_same
        · rw [decide_eq_false (show ¬ cnt B (g'.set pos (some n)) > 0 from c2)]
          refine iteF ⟨ts, _, _, rfl, e3.trans (del_ex e7), h3, ?_⟩
          have : optF B g' pos n = none := by unfold optF; rw [if_neg c, if_neg c2]
          rw [htk, this]
          simpa using hP.ex (del_ex e7)
    · obtain ⟨ts, y4, y5, rfl, e3, h1, hP⟩ := P
      refine ⟨_, rfl, q D H1 ts hD (fun b o q => ?_) h1 ?_⟩
      · have nb : b ≠ D := fun z => by rw [z, hD] at q; cases q
        exact del_sub _ _ (e3 _ _ (by rw [del_ne nb]; exact e2 _ _ (e1 _ _ q)))
      · rw [List.length_map, List.take_length] at hP
        exact hP.ex del_sub
end
end K21
/-! ## W9 -/
set_option Elab.async false
set_option linter.all false
set_option maxRecDepth 100000
set_option maxHeartbeats 4000000
/-! Conflicts. -/
namespace K21
open PySem PySem.Spec PyProof.Rows L2
def confV (c : Int) (v : V) : Prop := if 0 < c then v = .non else ∃ t, v = .ref t
def spConflictOn (CB : Addr) : Sp := fun vs H Q _ => ∃ (p : Addr) (B : Bd Str) (g : Gv Str), vs = [.ref p] ∧ BoardAt CB H p B g ∧ ∀ v H', Ex H H' → confV (cnt B g) v → Q v H'
def spNeedLists (CB : Addr) : Sp := fun vs H Q _ => ∃ (p : Addr) (B : Bd Str) (g : Gv Str), vs = [.ref p] ∧ BoardAt CB H p B g ∧ 0 < cnt B g ∧ ∀ H', Ex H H' → Q .non H'
def spCount (C : Kd → Addr) : Sp := fun vs H Q _ => ∃ (a b : Addr) (k : Kd) (rows : List (Str × Int)) (g : Gv Str) (B : Bd Str), vs = [.ref a, .ref b] ∧ Asked C H a b k rows g B ∧ ∀ H', Ex H H' → Q (.int (cnt B g)) H'
def spConflict (C : Kd → Addr) : Sp := fun vs H Q _ => ∃ (a b : Addr) (k : Kd) (rows : List (Str × Int)) (g : Gv Str) (B : Bd Str), vs = [.ref a, .ref b] ∧ Asked C H a b k rows g B ∧ ∀ v H', Ex H H' → confV (cnt B g) v → Q v H'
section
variable {P : Program} {w : World} {K : PySem.W.Frag} {mg : Str → Option Value} {base : Heap} {C : Kd → Addr} {CB RC : Addr}
abbrev sconflict_on : Stmt := top 50
abbrev Nconflict_on : List Str := ["board", "far", "wrong", "place", "spare"]
theorem scconflict_on : FnScope Nconflict_on ["board"] (defScope sconflict_on) := ⟨rfl, rfl, rfl, by decide +kernel, rfl, by decide +kernel, by decide +kernel⟩
-- 0 board, 1 far, 2 wrong, 3 place, 4 spare
theorem cal_conflict_on (F : DF K mg "conflict_on" sconflict_on ["board"]) (T : Txt K mg C CB RC) (c_far_items : C8.Met P w K mg base 1 CB "far_items" (spFar CB) []) (c_wrong_positions : C8.Met P w K mg base 2 CB "wrong_positions" (spWrong CB) []) (c_spares : C8.Met P w K mg base 3 CB "spares" (spSpares CB) []) (c_turned : C8.Met P w K mg base 1 CB "turned" (spTurned CB) []) : C8.Cal P w K mg base 4 "conflict_on" (spConflictOn CB) [] := by
  refine F.cal scconflict_on (fun vs H Q E h => ?_) (fun f cdv A outer s H vs Q E hr h => ?_)
  · obtain ⟨p, B, g, rfl, _⟩ := h
    rfl
  · obtain ⟨p, B, g, rfl, hB, q⟩ := h
    obtain ⟨dx, d, gl, l, hp, hd, hl, hg⟩ := hB.ex
    have bdm := bd_m B.ns.length B.tn d gl
    have few := hB.few
    have nil_ne : ∀ (Z : Hp) (z : Addr), Z z = none → Ex Z (upd Z z (.lst [])) := fun Z z h => Evl.Ex.new h
    have tz : ∀ t, confV 0 (.ref t) := fun t => by unfold confV; rw [if_neg (by omega)]; exact ⟨t, rfl⟩
    refine ⟨_, (pss_cons (ps_set (i := 1) scconflict_on.nd rfl (Or.inl rfl) (C8.pe_mt0 c_far_items hr (by decide) (pv 0)))
      (pss_cons (ps_if (pt_cmpR (op_neNil_k K (hr_u hr)) (pv 1) (pe_lst pa_nil) (nomark _)) (pss_one (ps_ret (pe_tup (pa_cons (C8.pe_gc (by rfl) T.vFAR) (pa_cons (pe_ix (ix_list_k K) (pv 1) pe_int (fun _ _ => rfl)) pa_nil))))) pss_nil)
      (pss_cons (ps_set (i := 2) scconflict_on.nd rfl (Or.inl rfl) (C8.pe_mt c_wrong_positions hr (by decide) (pv 0) (pa_cons (pe_fld_k K (pv 0) rfl) pa_nil)))
      (pss_cons (ps_if (pt_cmpR (op_neNil_k K (hr_u hr)) (pv 2) (pe_lst pa_nil) (nomark _)) (pss_one (ps_ret (pe_tup (pa_cons (C8.pe_gc (by rfl) T.vWRONG) (pa_cons (pe_ix (ix_list_k K) (pe_fld_k K (pv 0) rfl) (pe_ix (ix_list_k K) (pv 2) pe_int (fun _ _ => rfl)) (fun _ _ => rfl)) pa_nil))))) pss_nil)
      (pss_cons (ps_for PassesOwn.never rfl (pi_list_k K (C8.pe_mt c_spares hr (by decide) (pv 0) (pa_cons (pe_fld_k K (pv 0) rfl) pa_nil))) (pg_tup_k K (n := 2) rfl (pgs_cons (pg_name (i := 3) scconflict_on.nd rfl (Or.inl rfl)) (pgs_cons (pg_name (i := 4) scconflict_on.nd rfl (Or.inl rfl)) pgs_nil))) (pss_one (ps_if (pt_cmpR op_le (pv 4) pe_int (nomark _)) (pss_one (ps_ret (pe_tup (pa_cons (C8.pe_gc (by rfl) T.vFEW) (pa_cons (C8.pe_mt c_turned hr (by decide) (pv 0) (pa_cons (pv 3) pa_nil)) pa_nil))))) pss_nil)))
      (pss_one (ps_ret pe_non))))))), ?_⟩
    refine ⟨_, rfl, p, dx, _, rfl, hp, bdm _ (by decide), p, B, g, rfl, hB, fun fA H1 xs _ e1 h1 _ hfar => ?_⟩
    refine ⟨_, rfl, Nat.zero_le _, fun z1 hz1 => ?_⟩
    have e2 := e1.trans (nil_ne _ _ hz1)
    have h2 := (nil_ne _ _ hz1) _ _ h1
    refine ⟨fA, z1, _, rfl, rfl, Evl.sq_of h2, Evl.sq_of upd_same, _, rfl, ?_⟩
    cases hf : farB B with
    | true =>
      have ec : cnt B g = 0 := by unfold cnt; rw [hf]; rfl
      cases xs with
      | nil => rw [hfar.mp rfl] at hf; cases hf
      | cons x xs =>
        refine iteT ?_
        refine ⟨_, rfl, fA, _, _, .str x, rfl, rfl, Evl.sq_of h2, atI_nat (j := 0) rfl, (by show 2 ≤ sizeLine; decide), fun t ht => ?_⟩
        exact q _ _ (e2.trans (Evl.Ex.new ht)) (by rw [ec]; exact tz t)
    | false =>
      have : xs = [] := hfar.mpr hf
      subst this
      refine iteF ?_
      refine ⟨_, rfl, p, dx, _, rfl, e2 _ _ hp, bdm _ (by decide), _, rfl, p, CB, dx, _, _, rfl, e2 _ _ hp, T.clB, T.nB "given" (by decide), bd_given _ _ _ _, ?_⟩
      refine ⟨p, gl, B, g, g, rfl, hB.mono e2, e2 _ _ hg, hB.ok, fun wA H2 ys _ e3 h3 hys hwr => ?_⟩
      refine ⟨_, rfl, Nat.zero_le _, fun z2 hz2 => ?_⟩
      have e4 := (e2.trans e3).trans (nil_ne _ _ hz2)
      have h4 := (nil_ne _ _ hz2) _ _ h3
      refine ⟨wA, z2, _, rfl, rfl, Evl.sq_of h4, Evl.sq_of upd_same, _, rfl, ?_⟩
      cases hw : wrongB B.fl (pl B.tn g) with
      | true =>
        have ec : cnt B g = 0 := by unfold cnt; rw [hf, hw]; rfl
        cases ys with
        | nil => rw [hwr.mp rfl] at hw; cases hw
        | cons x xs =>
          refine iteT ?_
          have hx := hys x (by simp)
          refine ⟨_, rfl, p, CB, dx, _, _, rfl, e4 _ _ hp, T.clB, T.nB "given" (by decide), bd_given _ _ _ _, _, rfl, wA, _, _, .int (x : Nat), rfl, rfl, Evl.sq_of h4, atI_nat (j := 0) rfl, gl, _, _, vo g[x], rfl, rfl, Evl.sq_of (e4 _ _ hg), atI_nat (by rw [List.getElem?_map, List.getElem?_eq_getElem hx]; rfl), (by show 2 ≤ sizeLine; decide), fun t ht => ?_⟩
          exact q _ _ (e4.trans (Evl.Ex.new ht)) (by rw [ec]; exact tz t)
      | false =>
        have : ys = [] := hwr.mpr hw
        subst this
        refine iteF ?_
        refine ⟨_, rfl, p, dx, _, rfl, e4 _ _ hp, bdm _ (by decide), _, rfl, p, CB, dx, _, _, rfl, e4 _ _ hp, T.clB, T.nB "given" (by decide), bd_given _ _ _ _, ?_⟩
        refine ⟨p, gl, B, g, g, rfl, hB.mono e4, e4 _ _ hg, hB.ok, fun sA H3 _ e5 hS => ?_⟩
        obtain ⟨ts, h5, htl, hts⟩ := hS
        have e6 := e4.trans e5
        have ec : cnt B g = NP (fits B.fl (wait B.ns g)) 0 (free (pl B.tn g)) := by unfold cnt; rw [hf, hw]; rfl
        refine ⟨sA, rfl, ⟨_, Evl.sq_of h5⟩, for_it (walk_list (xs := ts)) (fun i σ H4 => ∃ y3 y4, Ex H3 H4 ∧ σ = [some (.ref p), some (.ref fA), some (.ref wA), y3, y4] ∧ ∀ j c, j < i → (free (pl B.tn g))[j]? = some c → (j : Int) < fits B.fl (wait B.ns g) c)
          ⟨none, none, Evl.Ex.refl _, rfl, fun j c hj => by omega⟩ (fun i σ H4 _ P => ?_) (fun i x σ H4 H' hi P y => ?_) fun σ H4 P => ?_⟩
        · obtain ⟨_, _, e7, rfl, _⟩ := P
          exact Evl.sq_of (e7 _ _ h5)
        · obtain ⟨y3, y4, e7, rfl, hall⟩ := P
          obtain ⟨rfl, hx⟩ := y
          obtain ⟨t, c, rfl, hc, ht⟩ := hts i x hx
          refine ⟨t, _, rfl, .inl (.inl (e7 _ _ ht)), rfl, _, _, rfl, _, _, rfl, rfl, ?_⟩
          refine ⟨_, rfl, _, _, rfl, rfl, _, rfl, ?_⟩
          by_cases z : (i : Int) < fits B.fl (wait B.ns g) c
          · rw [decide_eq_false (by omega)]
            refine iteF ⟨_, _, e7, rfl, fun j c2 hj hc2 => ?_⟩
            by_cases z2 : j = i
            · subst z2; rw [hc] at hc2; cases hc2; exact z
            · exact hall j c2 (by omega) hc2
          · rw [decide_eq_true (by omega)]
            refine iteT ?_
            have e8 := e6.trans e7
            refine ⟨_, rfl, p, dx, _, rfl, e8 _ _ hp, bdm _ (by decide), _, rfl, p, dx, _, _, _, _, rfl, e8 _ _ hp, bd_size _ _ _ _, bd_turned _ _ _ _, (by show 2 ≤ sizeLine; decide), fun u hu => ?_⟩
            refine q _ _ (e8.trans (Evl.Ex.new hu)) ?_
            have : cnt B g = 0 := by
              rw [ec, prod_cut]
              refine prodI_zero _ ⟨0, List.mem_map.mpr ⟨i, List.mem_range.mpr (List.getElem?_eq_some_iff.mp hc).1, ?_⟩, rfl⟩
              rw [hc]
              show max 0 _ = (0 : Int)
              omega
            rw [this]; exact tz u
        · obtain ⟨y3, y4, e7, rfl, hall⟩ := P
          refine q _ _ (e6.trans e7) ?_
          have : 0 < cnt B g := by
            rw [ec]
            refine NP_pos _ _ fun i c hc => ?_
            have := hall i c (by rw [htl]; exact (List.getElem?_eq_some_iff.mp hc).1) hc
            omega
          unfold confV
          rw [if_pos this]
abbrev sneed_lists : Stmt := top 51
abbrev Nneed_lists : List Str := ["board", "found"]
theorem scneed_lists : FnScope Nneed_lists ["board"] (defScope sneed_lists) := ⟨rfl, rfl, rfl, by decide +kernel, rfl, by decide +kernel, by decide +kernel⟩
-- 0 board, 1 found
theorem cal_need_lists (F : DF K mg "need_lists" sneed_lists ["board"]) (T : Txt K mg C CB RC) (c_conflict_on : C8.Cal P w K mg base 4 "conflict_on" (spConflictOn CB) []) : C8.Cal P w K mg base 5 "need_lists" (spNeedLists CB) [] := by
  refine F.cal scneed_lists (fun vs H Q E h => ?_) (fun f cdv A outer s H vs Q E hr h => ?_)
  · obtain ⟨p, B, g, rfl, _⟩ := h
    rfl
  · obtain ⟨p, B, g, rfl, hB, hc, q⟩ := h
    refine ⟨_, (pss_cons (ps_set (i := 1) scneed_lists.nd rfl (Or.inl rfl) (C8.pe_c c_conflict_on hr (by decide) (by rfl) (pa_cons (pv 0) pa_nil)))
      (pss_one (ps_if (pt_cmpR op_notN (pv 1) pe_non (nomark _)) (pss_one ps_never) pss_nil))), ?_⟩
    refine ⟨_, rfl, p, B, g, rfl, hB, fun v H1 e1 hv => ?_⟩
    unfold confV at hv
    rw [if_pos hc] at hv
    subst hv
    refine ⟨_, rfl, rfl, false, rfl, iteF ?_⟩
    exact q _ e1
abbrev scount : Stmt := top 52
abbrev Ncount : List Str := ["log", "seen", "board"]
theorem sccount : FnScope Ncount ["log", "seen"] (defScope scount) := ⟨rfl, rfl, rfl, by decide +kernel, rfl, by decide +kernel, by decide +kernel⟩
-- 0 log, 1 seen, 2 board
theorem can_count (F : DK K mg "count" scount ["log", "seen"] 1) (T : Txt K mg C CB RC) (c_board_of : C8.Cal P w K mg base 6 "board_of" (spBoardOf C CB) []) (c_count_filled : C8.Cal P w K mg base 4 "count_filled" (spCountFilled CB) []) : CaN P w K mg base 7 "count" 1 (spCount C) := by
  refine F.can sccount (fun vs H Q E h => ?_) (fun f cdv A outer s H vs Q E hr h => ?_)
  · obtain ⟨a, b, k, rows, g, B, rfl, _⟩ := h
    rfl
  · obtain ⟨a, b, k, rows, g, B, rfl, hA, q⟩ := h
    refine ⟨_, (pss_cons (ps_set (i := 2) sccount.nd rfl (Or.inl rfl) (C8.pe_c c_board_of hr (by decide) (by rfl) (pa_cons (pv 0) (pa_cons (pv 1) pa_nil))))
      (pss_one (ps_ret (C8.pe_c c_count_filled hr (by decide) (by rfl) (pa_cons (pv 2) (pa_cons (pe_fld_k K (pv 2) rfl) pa_nil)))))), ?_⟩
    refine ⟨_, rfl, _, rfl, a, b, k, rows, g, B, rfl, hA, fun p H1 _ e1 hB => ?_⟩
    obtain ⟨dx, d, gl, l, hp, hd, hl, hg⟩ := hB.ex
    refine ⟨_, rfl, _, rfl, p, CB, dx, _, _, rfl, hp, T.clB, T.nB "given" (by decide), bd_given _ _ _ _, ?_⟩
    exact ⟨p, gl, B, g, rfl, ⟨⟨g, hB⟩, hg, hB.ok⟩, fun H2 e2 => q _ (e1.trans e2)⟩
abbrev sconflict : Stmt := top 53
abbrev Nconflict : List Str := ["log", "seen"]
theorem scconflict : FnScope Nconflict ["log", "seen"] (defScope sconflict) := ⟨rfl, rfl, rfl, by decide +kernel, rfl, by decide +kernel, by decide +kernel⟩
-- 0 log, 1 seen
theorem can_conflict (F : DK K mg "conflict" sconflict ["log", "seen"] 1) (T : Txt K mg C CB RC) (c_board_of : C8.Cal P w K mg base 6 "board_of" (spBoardOf C CB) []) (c_conflict_on : C8.Cal P w K mg base 4 "conflict_on" (spConflictOn CB) []) : CaN P w K mg base 7 "conflict" 1 (spConflict C) := by
  refine F.can scconflict (fun vs H Q E h => ?_) (fun f cdv A outer s H vs Q E hr h => ?_)
  · obtain ⟨a, b, k, rows, g, B, rfl, _⟩ := h
    rfl
  · obtain ⟨a, b, k, rows, g, B, rfl, hA, q⟩ := h
    refine ⟨_, (pss_one (ps_ret (C8.pe_c c_conflict_on hr (by decide) (by rfl) (pa_cons (C8.pe_c c_board_of hr (by decide) (by rfl) (pa_cons (pv 0) (pa_cons (pv 1) pa_nil))) pa_nil)))), ?_⟩
    refine ⟨_, rfl, _, rfl, a, b, k, rows, g, B, rfl, hA, fun p H1 _ e1 hB => ?_⟩
    exact ⟨p, B, g, rfl, hB, fun v H2 e2 hv => q v _ (e1.trans e2) hv⟩
end
end K21
/-! ## W10 -/
set_option Elab.async false
set_option linter.all false
set_option maxRecDepth 100000
set_option maxHeartbeats 4000000
/-! The list with a number. -/
namespace K21
open PySem PySem.Spec PyProof.Rows L2
theorem eqV_non {o : Option Str} : eqV (vo o) .non = decide (o = none) := by
  cases o <;> rfl
theorem inV_non {g : Gv Str} : inV .non (g.map vo) = decide (none ∈ g) := by
  unfold inV
  rw [List.any_map]
  induction g with
  | nil => rfl
  | cons o r ih =>
    rw [List.any_cons, ih]
    show (eqV (vo o) .non || decide (none ∈ r)) = _
    rw [eqV_non]
    by_cases z : o = none
    · subst z; simp
    · have z2 : ¬ none = o := fun q => z q.symm
      simp [z, z2]
theorem flat_vo1 (o : Option Str) : flatV (vo o) = true := by cases o <;> rfl
def nthL (B : Bd Str) (g : Gv Str) (k : Int) : Gv Str := nthF (g.count none) B g k
def spNth (C : Kd → Addr) : Sp := fun vs H Q _ => ∃ (a b : Addr) (i : Int) (k : Kd) (rows : List (Str × Int)) (g : Gv Str) (B : Bd Str), vs = [.ref a, .int i, .ref b] ∧ Asked C H a b k rows g B ∧ 0 ≤ i ∧ i < cnt B g ∧
  ∀ q H', H q = none → Ex H H' → H' q = some (.lst ((nthL B g i).map vo)) → Q (.ref q) H'
section
variable {P : Program} {w : World} {K : PySem.W.Frag} {mg : Str → Option Value} {base : Heap} {C : Kd → Addr} {CB RC : Addr}
abbrev snth_list : Stmt := top 54
abbrev Nnth_list : List Str := ["log", "number", "seen", "board", "given", "left", "position", "item", "lists"]
theorem scnth_list : FnScope Nnth_list ["log", "number", "seen"] (defScope snth_list) := ⟨rfl, rfl, rfl, by decide +kernel, rfl, by decide +kernel, by decide +kernel⟩
-- 0 log, 1 number, 2 seen, 3 board, 4 given, 5 left, 6 position, 7 item, 8 lists
theorem can_nth_list (F : DK K mg "nth_list" snth_list ["log", "number", "seen"] 2) (T : Txt K mg C CB RC) (c_board_of : C8.Cal P w K mg base 6 "board_of" (spBoardOf C CB) []) (c_count_filled : C8.Cal P w K mg base 4 "count_filled" (spCountFilled CB) []) (c_options : C8.Cal P w K mg base 5 "options" (spOptions CB) []) (c_with_item : C8.Cal P w K mg base 1 "with_item" spWithItem []) : CaN P w K mg base 7 "nth_list" 2 (spNth C) := by
  refine F.can scnth_list (fun vs H Q E h => ?_) (fun f cdv A outer s H vs Q E hr h => ?_)
  · obtain ⟨a, b, i, k, rows, g, B, rfl, _⟩ := h
    rfl
  · obtain ⟨a, b, i, k, rows, g, B, rfl, hA, hi0, hi1, q⟩ := h
    refine ⟨_, (pss_cons (ps_set (i := 3) scnth_list.nd rfl (Or.inl rfl) (C8.pe_c c_board_of hr (by decide) (by rfl) (pa_cons (pv 0) (pa_cons (pv 2) pa_nil))))
      (pss_cons (ps_set (i := 4) scnth_list.nd rfl (Or.inl rfl) (pe_fld_k K (pv 3) rfl))
      (pss_cons (ps_if (pt_not (pt_chain op_le op_lt pe_int (pv 1) (C8.pe_c c_count_filled hr (by decide) (by rfl) (pa_cons (pv 3) (pa_cons (pv 4) pa_nil))))) (pss_one ps_never) pss_nil)
      (pss_cons (ps_set (i := 5) scnth_list.nd rfl (Or.inl rfl) (pv 1))
      (pss_cons (ps_while PassesOwn.never (pt_cmpR (op_in_seq_k K) pe_non (pv 4) (by rfl)) (pss_cons (ps_set (i := 6) scnth_list.nd rfl (Or.inl rfl) (pe_bm_k K PySem.F.plainAttrs_list PySem.F.slot_list_index PySem.F.type_list_index (mt_index_k K) (pv 4) (pa_cons pe_non pa_nil)))
      (pss_one (ps_for PassesOwn.never rfl (pi_list_k K (C8.pe_c c_options hr (by decide) (by rfl) (pa_cons (pv 3) (pa_cons (pv 4) (pa_cons (pv 6) pa_nil))))) (pg_tup_k K (n := 2) rfl (pgs_cons (pg_name (i := 7) scnth_list.nd rfl (Or.inl rfl)) (pgs_cons (pg_name (i := 8) scnth_list.nd rfl (Or.inl rfl)) pgs_nil))) (pss_cons (ps_if (pt_cmpR op_lt (pv 5) (pv 8) (nomark _)) (pss_cons (ps_set (i := 4) scnth_list.nd rfl (Or.inl rfl) (C8.pe_c c_with_item hr (by decide) (by rfl) (pa_cons (pv 4) (pa_cons (pv 6) (pa_cons (pv 7) pa_nil)))))
      (pss_one ps_break)) pss_nil)
      (pss_one (ps_aug (i := 5) scnth_list.nd rfl (Or.inl rfl) (pv 8) ip_sub)))))))
      (pss_one (ps_ret (pe_callTy (call_list_of_k K) (by rfl) T.list_ (by decide +kernel) (pa_cons (pv 4) pa_nil))))))))), ?_⟩
    refine ⟨_, rfl, _, rfl, a, b, k, rows, g, B, rfl, hA, fun p H1 _ e1 hB => ?_⟩
    obtain ⟨dx, d, gl, l, hp, hd, hl, hg⟩ := hB.ex
    have nd := asc_nodup hB.asc
    refine ⟨_, rfl, p, CB, dx, _, _, rfl, hp, T.clB, T.nB "given" (by decide), bd_given _ _ _ _, ?_⟩
    refine ⟨_, rfl, _, _, rfl, rfl, true, bl_t (decide_eq_true hi0), iteT ?_⟩
    refine ⟨_, rfl, _, rfl, p, gl, B, g, rfl, ⟨⟨g, hB⟩, hg, hB.ok⟩, fun H2 e2 => ⟨_, _, rfl, rfl, true, bl_t (decide_eq_true hi1), iteF ?_⟩⟩
    refine ⟨_, rfl, ?_⟩
    refine ⟨fun m σ H3 => ∃ (gA : Addr) (x : Gv Str) (lf : Int) (y6 y7 y8 : Option V), σ = [some (.ref a), some (.int i), some (.ref b), some (.ref p), some (.ref gA), some (.int lf), y6, y7, y8] ∧ m = x.count none ∧ Ex H2 H3 ∧ H3 gA = some (.lst (x.map vo)) ∧ Gok B.ns x ∧ 0 ≤ lf ∧ lf < cnt B x ∧ nthL B x lf = nthL B g i,
      ⟨_, gl, g, i, none, none, none, rfl, rfl, Evl.Ex.refl _, e2 _ _ hg, hB.ok, hi0, hi1, rfl⟩, ?_⟩
    rintro m σ H3 ⟨gA, x, lf, y6, y7, y8, rfl, rfl, e3, hx, okx, h0, h1, hnth⟩
    have xl : x.length ≤ 40 := by rw [okx.len]; exact hB.few
    refine ⟨_, rfl, gA, _, rfl, .inl (Evl.sq_of hx), rfl, flat_vo x, _, rfl, ?_⟩
    rw [if_neg Bool.false_ne_true, inV_non]
    by_cases c : none ∈ x
    · rw [decide_eq_true c]
      refine iteT ?_
      obtain ⟨n, cc, lf2, hpick, hmem, okn, hl0, hl1, hn2⟩ := nth_turn nd okx c h0 h1
      have hfn := fn_at c
      have hfl := (List.getElem?_eq_some_iff.mp hfn).1
      refine ⟨_, fun σ' H' hN => hN, ?_⟩
      refine ⟨_, rfl, .inl ⟨rfl, _, Evl.sq_of hx⟩, gA, _, .non, fn x, .non, rfl, rfl, Evl.sq_of hx, rfl, flat_vo x, by rw [List.getElem?_map, hfn]; rfl, rfl, fun j z' hj hz => ?_, ?_⟩
      · rw [List.getElem?_map] at hz
        obtain ⟨o, ho, rfl⟩ := Option.map_eq_some_iff.mp hz
        rw [eqV_non]
        exact decide_eq_false fun z => fn_before hj (by rw [ho, z])
      have eB3 := e2.trans e3
      have hG : Gvn CB H3 p gA B x := ⟨⟨g, hB.mono eB3⟩, hx, okx⟩
      refine ⟨_, rfl, _, rfl, _, rfl, p, gA, fn x, B, x, rfl, hG, hfn, fun oA H4 ts _ e4 h4 hP => ?_⟩
      have lenO : (opts B x (fn x)).length = ts.length := hP.len.symm
      refine ⟨oA, rfl, ⟨_, Evl.sq_of h4⟩, for_it (walk_list (xs := ts)) (fun j σ H5 => ∃ (lj : Int) (y7 y8 : Option V), σ = [some (.ref a), some (.int i), some (.ref b), some (.ref p), some (.ref gA), some (.int lj), some (.int (fn x : Nat)), y7, y8] ∧ H5 = H4 ∧ pickO ((opts B x (fn x)).drop j) lj = some (n, lf2))
        ⟨lf, y7, y8, rfl, rfl, hpick⟩ (fun j σ H5 _ P => ?_) (fun j v σ H5 H' hj P y => ?_) fun σ H5 P => ?_⟩
      · obtain ⟨_, _, _, _, rfl, _⟩ := P
        exact Evl.sq_of h4
      · obtain ⟨lj, y7, y8, rfl, rfl, hpk⟩ := P
        obtain ⟨rfl, hv⟩ := y
        obtain ⟨t, n1, c1, rfl, ho, ht⟩ := hP.at_ j v hv
        have hdrop : (opts B x (fn x)).drop j = (n1, c1) :: (opts B x (fn x)).drop (j + 1) := by
          obtain ⟨h5, h6⟩ := List.getElem?_eq_some_iff.mp ho
          rw [List.drop_eq_getElem_cons h5, h6]
        refine ⟨t, _, rfl, .inl (.inl ht), rfl, _, _, rfl, _, _, rfl, rfl, ?_⟩
        refine ⟨_, rfl, _, rfl, _, _, rfl, rfl, _, rfl, ?_⟩
        rw [hdrop, pickO] at hpk
        by_cases z : lj < c1
        · rw [if_pos z] at hpk
          injection hpk with hpk
          injection hpk with e5 e6
          subst e5 e6
          rw [decide_eq_true z]
          refine iteT ?_
          refine ⟨_, rfl, _, rfl, _, rfl, gA, fn x, .str n1, _, rfl, e4 _ _ hx, by rw [List.length_map]; exact hfl, by rw [List.length_map]; exact xl, fun nA H6 hnA e6 h6 => ?_⟩
          refine ⟨_, ?_, nA, x.set (fn x) (some n1), lj, _, _, _, rfl, rfl, e3.trans (e4.trans e6), by rw [h6, List.map_set]; rfl, okn, hl0, hl1, ?_⟩
          · have := count_set (n := n1) hfn
            omega
          · exact hn2.symm.trans hnth
        · rw [if_neg z] at hpk
          rw [decide_eq_false z]
          refine iteF ?_
          exact ⟨_, rfl, _, rfl, _, _, rfl, rfl, _, _, _, rfl, rfl, hpk⟩
      · obtain ⟨lj, y7, y8, rfl, rfl, hpk⟩ := P
        rw [← lenO, List.drop_length] at hpk
        cases hpk
    · rw [decide_eq_false c]
      refine iteF ?_
      refine ⟨_, rfl, gA, _, rfl, .inl (Evl.sq_of hx), fun q1 hq1 => ?_⟩
      have ex : nthL B g i = x := by
        rw [← hnth]
        unfold nthL
        rw [List.count_eq_zero_of_not_mem c]; rfl
      refine q q1 _ (Evl.fresh_back ((e1.trans e2).trans e3) hq1) (((e1.trans e2).trans e3).trans (Evl.Ex.new hq1)) ?_
      rw [upd_same, ex]
end
end K21
/-! ## W11 -/
set_option Elab.async false
set_option linter.all false
set_option maxRecDepth 100000
set_option maxHeartbeats 4000000
/-! Certain entries, positions, shares. -/
namespace K21
open PySem PySem.Spec PyProof.Rows L2
theorem NP_le (c : Nat → Nat) (m : Nat) (hm : 1 ≤ m) : ∀ (ps : List Nat) (j : Nat), (∀ p, c p ≤ m) → NP c j ps ≤ ((m ^ ps.length : Nat) : Int)
  | [], _, _ => by simp [NP]
  | p :: ps, j, h => by
    rw [NP, List.length_cons, Nat.pow_succ, Nat.mul_comm, Int.natCast_mul]
    have h1 := NP_le c m hm ps (j + 1) h
    have h2 := NP_nonneg c ps (j + 1)
    have h3 : max 0 ((c p : Int) - j) ≤ (m : Int) := by have := h p; omega
    refine Int.mul_le_mul h3 h1 h2 (by omega)
theorem cnt_le {B : Bd Str} {g : Gv Str} (few : B.ns.length ≤ 40) (ok : Gok B.ns g) : cnt B g < 2 ^ 240 := by
  unfold cnt
  split
  · decide
  · have h := NP_le (fits B.fl (wait B.ns g)) 40 (by omega) (free (pl B.tn g)) 0 fun p => by
      have h1 := fits_le B.fl (wait B.ns g) p
      have h2 : (wait B.ns g).length ≤ B.ns.length := List.length_filter_le _ _
      omega
    have h1 : (free (pl B.tn g)).length ≤ 40 := by have := free_len (pl B.tn g); rw [pl_len, ok.len] at this; omega
    have h2 : 40 ^ (free (pl B.tn g)).length ≤ 40 ^ 40 := Nat.pow_le_pow_right (by omega) h1
    have h3 : (40 : Nat) ^ 40 < 2 ^ 240 := by decide
    have h4 : 40 ^ (free (pl B.tn g)).length < 2 ^ 240 := by omega
    have h5 : ((40 ^ (free (pl B.tn g)).length : Nat) : Int) < ((2 ^ 240 : Nat) : Int) := Int.ofNat_lt.mpr h4
    have h6 : ((2 ^ 240 : Nat) : Int) = 2 ^ 240 := by decide
    omega
theorem gcd_step {x y : Int} (hx : 0 ≤ x) (hy : 0 ≤ y) : Int.gcd y (x % y) = Int.gcd x y := by
  obtain ⟨m, rfl⟩ := Int.eq_ofNat_of_zero_le hx
  obtain ⟨n, rfl⟩ := Int.eq_ofNat_of_zero_le hy
  rw [← Int.natCast_emod]
  show Nat.gcd n (m % n) = Nat.gcd m n
  rw [Nat.gcd_comm n, ← Nat.gcd_rec, Nat.gcd_comm]
def spNeedItem (CB : Addr) : Sp := fun vs H Q _ => ∃ (p : Addr) (n : Str) (B : Bd Str) (g : Gv Str), vs = [.ref p, .str n] ∧ BoardAt CB H p B g ∧ n ∈ B.ns ∧ ∀ H', Ex H H' → Q .non H'
def spListsWith (CB : Addr) : Sp := fun vs H Q _ => ∃ (p : Addr) (n : Str) (i : Nat) (B : Bd Str) (g : Gv Str), vs = [.ref p, .str n, .int (i : Nat)] ∧ BoardAt CB H p B g ∧ n ∈ B.ns ∧ i < g.length ∧ ∀ H', Ex H H' → Q (.int (lw B g n i)) H'
def spPositions (C : Kd → Addr) : Sp := fun vs H Q _ => ∃ (a b : Addr) (n : Str) (k : Kd) (rows : List (Str × Int)) (g : Gv Str) (B : Bd Str), vs = [.ref a, .str n, .ref b] ∧ Asked C H a b k rows g B ∧ n ∈ B.ns ∧ 0 < cnt B g ∧
  ∀ q H', H q = none → Ex H H' → H' q = some (.lst ((posF B g n).map fun i => V.int (i : Nat))) → Q (.ref q) H'
def spLowest : Sp := fun vs H Q _ => ∃ (t b : Int), vs = [.int t, .int b] ∧ 0 ≤ t ∧ 0 < b ∧ b < 2 ^ 240 ∧ ∀ q H', H q = none → Ex H H' → H' q = some (.tup [.int (lowT t b).1, .int (lowT t b).2]) → Q (.ref q) H'
def spShare (C : Kd → Addr) : Sp := fun vs H Q _ => ∃ (a b : Addr) (n : Str) (i : Nat) (k : Kd) (rows : List (Str × Int)) (g : Gv Str) (B : Bd Str), vs = [.ref a, .str n, .int (i : Nat), .ref b] ∧ Asked C H a b k rows g B ∧ n ∈ B.ns ∧ i < B.ns.length ∧ 0 < cnt B g ∧
  ∀ q H', H q = none → Ex H H' → H' q = some (.tup [.int (lowT (lw B g n i) (cnt B g)).1, .int (lowT (lw B g n i) (cnt B g)).2]) → Q (.ref q) H'
section
variable {P : Program} {w : World} {K : PySem.W.Frag} {mg : Str → Option Value} {base : Heap} {C : Kd → Addr} {CB RC : Addr}
abbrev sneed_item : Stmt := top 59
abbrev Nneed_item : List Str := ["board", "item"]
theorem scneed_item : FnScope Nneed_item ["board", "item"] (defScope sneed_item) := ⟨rfl, rfl, rfl, by decide +kernel, rfl, by decide +kernel, by decide +kernel⟩
-- 0 board, 1 item
theorem cal_need_item (F : DF K mg "need_item" sneed_item ["board", "item"]) (T : Txt K mg C CB RC) : C8.Cal P w K mg base 1 "need_item" (spNeedItem CB) [] := by
  refine F.cal scneed_item (fun vs H Q E h => ?_) (fun f cdv A outer s H vs Q E hr h => ?_)
  · obtain ⟨p, n, B, g, rfl, _⟩ := h
    rfl
  · obtain ⟨p, n, B, g, rfl, hB, hn, q⟩ := h
    obtain ⟨dx, d, gl, l, hp, hd, hl, hg⟩ := hB.ex
    refine ⟨_, (pss_one (ps_if (pt_cmp (pc_dnotin (hu_of hr) (pv 1) (pe_fld_k K (pv 0) rfl)) (by rfl)) (pss_one ps_never) pss_nil)), ?_⟩
    refine ⟨_, rfl, _, rfl, p, CB, dx, _, _, rfl, hp, T.clB, T.nB "floors" (by decide), bd_floors _ _ _ _, d, some (.int (B.fl n)), rfl, ?_, false, rfl, iteF (q _ (Evl.Ex.refl _))⟩
    have := DGet.k (k := Sum.inr n) hd
    rw [valV_fl B (hl.mem_iff.mpr hn)] at this
    exact this
abbrev slists_with : Stmt := top 60
abbrev Nlists_with : List Str := ["board", "item", "position", "own"]
theorem sclists_with : FnScope Nlists_with ["board", "item", "position"] (defScope slists_with) := ⟨rfl, rfl, rfl, by decide +kernel, rfl, by decide +kernel, by decide +kernel⟩
-- 0 board, 1 item, 2 position, 3 own
theorem cal_lists_with (F : DF K mg "lists_with" slists_with ["board", "item", "position"]) (T : Txt K mg C CB RC) (c_count_filled : C8.Cal P w K mg base 4 "count_filled" (spCountFilled CB) []) (c_with_item : C8.Cal P w K mg base 1 "with_item" spWithItem []) : C8.Cal P w K mg base 5 "lists_with" (spListsWith CB) [] := by
  refine F.cal sclists_with (fun vs H Q E h => ?_) (fun f cdv A outer s H vs Q E hr h => ?_)
  · obtain ⟨p, n, i, B, g, rfl, _⟩ := h
    rfl
  · obtain ⟨p, n, i, B, g, rfl, hB, hn, hi, q⟩ := h
    obtain ⟨dx, d, gl, l, hp, hd, hl, hg⟩ := hB.ex
    have gl40 : g.length ≤ 40 := by rw [hB.ok.len]; exact hB.few
    obtain ⟨o, ho⟩ : ∃ o, g[i]? = some o := ⟨g[i], List.getElem?_eq_getElem hi⟩
    refine ⟨_, (pss_cons (ps_set (i := 3) sclists_with.nd rfl (Or.inl rfl) (pe_ix (ix_list_k K) (pe_fld_k K (pv 0) rfl) (pv 2) (fun _ _ => rfl)))
      (pss_cons (ps_if (PW.pt (pw_and (pt_cmpR op_isN (pv 3) pe_non (nomark _)) (pw_and1 (pt_cmpR (op_notIn_seq_k K) (pv 1) (pe_fld_k K (pv 0) rfl) (by rfl))))) (pss_one (ps_ret (C8.pe_c c_count_filled hr (by decide) (by rfl) (pa_cons (pv 0) (pa_cons (C8.pe_c c_with_item hr (by decide) (by rfl) (pa_cons (pe_fld_k K (pv 0) rfl) (pa_cons (pv 2) (pa_cons (pv 1) pa_nil)))) pa_nil))))) pss_nil)
      (pss_one (ps_ret (pe_ifExp (pt_cmpR op_eq (pv 3) (pv 1) (nomark _)) (C8.pe_c c_count_filled hr (by decide) (by rfl) (pa_cons (pv 0) (pa_cons (pe_fld_k K (pv 0) rfl) pa_nil))) pe_int))))), ?_⟩
    refine ⟨_, rfl, p, CB, dx, _, _, rfl, hp, T.clB, T.nB "given" (by decide), bd_given _ _ _ _, _, rfl, gl, _, _, vo o, rfl, rfl, Evl.sq_of hg, atI_nat (by rw [List.getElem?_map, ho]; rfl), ?_⟩
    cases o with
    | none =>
      refine ⟨_, rfl, rfl, true, rfl, iteT ?_⟩
      refine ⟨_, rfl, _, rfl, p, CB, dx, _, _, rfl, hp, T.clB, T.nB "given" (by decide), bd_given _ _ _ _, gl, _, rfl, .inl (Evl.sq_of hg), rfl, flat_vo g, _, rfl, ?_⟩
      rw [if_pos rfl]
      have ei : inV (V.str n) (g.map vo) = decide (some n ∈ g) := inV_vo
      rw [ei]
      by_cases c : some n ∈ g
      · rw [decide_eq_true c]
        refine iteF ?_
        refine ⟨_, rfl, _, rfl, rfl, false, rfl, iteF ?_⟩
        have : lw B g n i = 0 := by unfold lw; rw [ho]; show (if some n ∈ g then _ else _) = _; rw [if_pos c]
        have q := q _ (Evl.Ex.refl _)
        rw [this] at q
        exact q
      · rw [decide_eq_false c]
        refine iteT ?_
        refine ⟨_, rfl, _, rfl, p, CB, dx, _, _, rfl, hp, T.clB, T.nB "given" (by decide), bd_given _ _ _ _, _, rfl, _, rfl, gl, i, .str n, _, rfl, hg, by rw [List.length_map]; exact hi, by rw [List.length_map]; exact gl40, fun wA H2 hwA e5 h2 => ?_⟩
        refine ⟨p, wA, B, g.set i (some n), rfl, ⟨⟨g, hB.mono e5⟩, by rw [h2, List.map_set]; rfl, hB.ok.set hn c⟩, fun H3 e6 => ?_⟩
        have : lw B g n i = cnt B (g.set i (some n)) := by unfold lw; rw [ho]; show (if some n ∈ g then _ else _) = _; rw [if_neg c]
        rw [← this]
        exact q _ (e5.trans e6)
    | some m =>
      refine ⟨_, rfl, rfl, false, rfl, iteF ?_⟩
      refine iteF ?_
      refine ⟨_, rfl, _, rfl, rfl, ?_⟩
      have e0 : decide (vo (some m) = V.str n) = decide (m = n) := by
        by_cases z : m = n
        · subst z; simp [vo]
        · rw [decide_eq_false z]; exact decide_eq_false fun y => z (by injection y)
      rw [e0]
      have e1 : lw B g n i = if m = n then cnt B g else 0 := by unfold lw; rw [ho]
      by_cases z : m = n
      · rw [decide_eq_true z]
        refine ⟨true, rfl, iteT ?_⟩
        refine ⟨_, rfl, _, rfl, p, CB, dx, _, _, rfl, hp, T.clB, T.nB "given" (by decide), bd_given _ _ _ _, ?_⟩
        refine ⟨p, gl, B, g, rfl, ⟨⟨g, hB⟩, hg, hB.ok⟩, fun H2 e2 => ?_⟩
        have q := q _ e2
        rw [e1, if_pos z] at q
        exact q
      · rw [decide_eq_false z]
        refine ⟨false, rfl, iteF ?_⟩
        have q := q _ (Evl.Ex.refl _)
        rw [e1, if_neg z] at q
        exact q
abbrev slowest_terms : Stmt := top 62
abbrev Nlowest_terms : List Str := ["top", "bottom", "one", "other"]
theorem sclowest_terms : FnScope Nlowest_terms ["top", "bottom"] (defScope slowest_terms) := ⟨rfl, rfl, rfl, by decide +kernel, rfl, by decide +kernel, by decide +kernel⟩
-- 0 top, 1 bottom, 2 one, 3 other
theorem cal_lowest_terms (F : DF K mg "lowest_terms" slowest_terms ["top", "bottom"]) (T : Txt K mg C CB RC) : C8.Cal P w K mg base 1 "lowest_terms" spLowest [] := by
  refine F.cal sclowest_terms (fun vs H Q E h => ?_) (fun f cdv A outer s H vs Q E hr h => ?_)
  · obtain ⟨t, b, rfl, _⟩ := h
    rfl
  · obtain ⟨t, b, rfl, ht, hb, hbb, q⟩ := h
    refine ⟨_, (pss_cons (ps_par (i := 2) (j := 3) (by rfl) sclowest_terms.nd rfl rfl (by decide) rfl rfl (pa_cons (pv 1) (pa_cons (pv 0) pa_nil)) (by rfl))
      (pss_cons (ps_while PassesOwn.never (pt_cmpR op_gt (pv 3) pe_int (nomark _)) (pss_one (ps_par (i := 2) (j := 3) (by rfl) sclowest_terms.nd rfl rfl (by decide) rfl rfl (pa_cons (pv 3) (pa_cons (pe_op op_mod (pv 2) (pv 3)) pa_nil)) (by rfl))))
      (pss_one (ps_ret (pe_tup (pa_cons (pe_op op_fdivW (pv 0) (pv 2)) (pa_cons (pe_op op_fdivW (pv 1) (pv 2)) pa_nil))))))), ?_⟩
    refine ⟨_, rfl, _, rfl, _, _, rfl, ?_⟩
    refine ⟨fun m σ H3 => ∃ (x y : Int), σ = [some (.int t), some (.int b), some (.int x), some (.int y)] ∧ H3 = H ∧ m = y.toNat ∧ 0 < x ∧ 0 ≤ y ∧ Int.gcd x y = Int.gcd b t, ⟨_, b, t, rfl, rfl, rfl, hb, ht, rfl⟩, ?_⟩
    rintro m σ H3 ⟨x, y, rfl, rfl, rfl, hx, hy, hg⟩
    refine ⟨_, rfl, _, _, rfl, rfl, _, rfl, ?_⟩
    by_cases z : y > 0
    · rw [decide_eq_true z]
      refine iteT ⟨_, fun σ' H' hN => hN, ?_⟩
      refine ⟨_, rfl, _, rfl, _, rfl, _, _, rfl, rfl, z, _, _, rfl, ?_⟩
      have h1 := Int.emod_nonneg x (by omega : y ≠ 0)
      have h2 := Int.emod_lt_of_pos x z
      refine ⟨_, ?_, y, x % y, rfl, rfl, rfl, z, h1, ?_⟩
      · omega
      · rw [← hg]; exact gcd_step (by omega) hy
    · rw [decide_eq_false z]
      have hy0 : y = 0 := by omega
      subst hy0
      refine iteF ?_
      have hgx : x = ((Int.gcd b t : Nat) : Int) := by
        rw [← hg, Int.gcd_zero_right]; omega
      have hle : x ≤ b := by
        rw [hgx]
        exact Int.le_of_dvd hb (Int.gcd_dvd_left ..)
      have hlog : x.natAbs.log2 < 9000 := by
        have : x.natAbs < 2 ^ 240 := by omega
        have h3 := (Nat.log2_lt (n := x.natAbs) (k := 240) (by omega)).mpr this
        omega
      refine ⟨_, rfl, _, rfl, _, _, rfl, rfl, ⟨hx, hlog⟩, _, rfl, _, rfl, _, _, rfl, rfl, ⟨hx, hlog⟩, (by show 2 ≤ sizeLine; decide), fun u hu => ?_⟩
      refine q u _ hu (Evl.Ex.new hu) ?_
      rw [upd_same]
      unfold lowT
      rw [hgx]
end
end K21
/-! ## W12 -/
set_option Elab.async false
set_option linter.all false
set_option maxRecDepth 100000
set_option maxHeartbeats 4000000
/-! Positions, shares, certain entries. -/
namespace K21
open PySem PySem.Spec PyProof.Rows L2
def spCertain (C : Kd → Addr) : Sp := fun vs H Q _ => ∃ (a b : Addr) (k : Kd) (rows : List (Str × Int)) (g : Gv Str) (B : Bd Str), vs = [.ref a, .ref b] ∧ Asked C H a b k rows g B ∧ 0 < cnt B g ∧
  ∀ q H', H q = none → Ex H H' → H' q = some (.lst ((certF B g).map vo)) → Q (.ref q) H'
section
variable {P : Program} {w : World} {K : PySem.W.Frag} {mg : Str → Option Value} {base : Heap} {C : Kd → Addr} {CB RC : Addr}
abbrev spositions : Stmt := top 61
abbrev Npositions : List Str := ["log", "item", "seen", "board", "position"]
theorem scpositions : FnScope Npositions ["log", "item", "seen"] (defScope spositions) := ⟨rfl, rfl, rfl, by decide +kernel, rfl, by decide +kernel, by decide +kernel⟩
-- 0 log, 1 item*, 2 seen, 3 board*, 4 position
theorem can_positions (F : DK K mg "positions" spositions ["log", "item", "seen"] 2) (T : Txt K mg C CB RC) (c_board_of : C8.Cal P w K mg base 6 "board_of" (spBoardOf C CB) []) (c_need_item : C8.Cal P w K mg base 1 "need_item" (spNeedItem CB) []) (c_need_lists : C8.Cal P w K mg base 5 "need_lists" (spNeedLists CB) []) (c_lists_with : C8.Cal P w K mg base 5 "lists_with" (spListsWith CB) []) : CaN P w K mg base 7 "positions" 2 (spPositions C) := by
  refine F.can scpositions (fun vs H Q E h => ?_) (fun f cdv A outer s H vs Q E hr h => ?_)
  · obtain ⟨a, b, n, k, rows, g, B, rfl, _⟩ := h
    rfl
  · obtain ⟨a, b, n, k, rows, g, B, rfl, hA, hn, hc, q⟩ := h
    refine ⟨_, (pss_cons (ps_set (i := 3) scpositions.nd rfl (Or.inr rfl) (C8.pe_c c_board_of hr (by decide) (by rfl) (pa_cons (pv 0) (pa_cons (pv 2) pa_nil))))
      (pss_cons (ps_expr (C8.pe_c c_need_item hr (by decide) (by rfl) (pa_cons (pv 3) (pa_cons (pv 1) pa_nil))))
      (pss_cons (ps_expr (C8.pe_c c_need_lists hr (by decide) (by rfl) (pa_cons (pv 3) pa_nil)))
      (pss_one (ps_ret (pe_lc (own := [("position", 4)]) rfl scpositions.nd (pi_range1 (by rfl) T.range_ (pa_cons (pe_fld_k K (pv 3) rfl) pa_nil)) (blkOk_by (N := Npositions) (sc := defScope spositions) (own := [("position", 4)]) (by decide +kernel)) (fun _ _ _ _ _ => (pg_name (i := 4) scpositions.nd rfl (Or.inl rfl))) (fun _ _ _ _ _ => (pts_one (pt_cmpR op_gt (C8.pe_c c_lists_with hr (by decide) (by rfl) (pa_cons (pv 3) (pa_cons (pv 1) (pa_cons (pv 4) pa_nil)))) pe_int (nomark _)))) (fun _ _ _ _ _ => (pv 4)))))))), ?_⟩
    refine ⟨_, rfl, _, rfl, a, b, k, rows, g, B, rfl, hA, fun p H1 _ e1 hB => ?_⟩
    refine ⟨_, rfl, _, rfl, p, n, B, g, rfl, hB, hn, fun H2 e2 => ?_⟩
    refine ⟨_, rfl, p, B, g, rfl, hB.mono e2, hc, fun H3 e3 => ?_⟩
    have hB3 := (hB.mono e2).mono e3
    have e13 := (e1.trans e2).trans e3
    obtain ⟨dx, d, gl, l, hp, hd, hl, hg⟩ := hB3.ex
    refine ⟨_, rfl, p, CB, dx, _, _, rfl, hp, T.clB, T.nB "size" (by decide), bd_size _ _ _ _, B.ns.length, rfl, (by omega), (by have := hB3.few; omega), fun D hD => ?_⟩
    refine lcP (walk_range (n := B.ns.length)) (fun i => if (decide (0 < lw B g n i)) = true then some (V.int (i : Nat)) else none) hD (by have := hB3.few; omega) (fun _ _ => trivial) (fun i x H4 H' Qy Qn hi e y k1 k2 => ?_) fun H4 e4 h4 => ?_
    · obtain ⟨rfl, ey⟩ := y
      have ey : x = .int (i : Nat) := by rw [ey]; show V.int (0 + _) = _; rw [Int.zero_add]
      subst ey
      have hi : i < B.ns.length := hi
      refine ⟨rfl, ?_⟩
      refine ⟨_, rfl, _, rfl, _, rfl, p, n, i, B, g, rfl, hB3.mono e, hn, by rw [hB3.ok.len]; exact hi, fun H5 e5 => ?_⟩
      · refine ⟨_, _, rfl, rfl, _, rfl, ?_⟩
        by_cases c : 0 < lw B g n i
        · rw [decide_eq_true (show lw B g n i > 0 from c)]
          refine iteT ⟨_, rfl, ?_⟩
          refine k1 _ _ e5 ?_
          rw [if_pos (decide_eq_true c)]
        · rw [decide_eq_false (show ¬ lw B g n i > 0 from c)]
          refine iteF (k2 _ e5 ?_)
          rw [if_neg (by rw [decide_eq_false c]; exact Bool.false_ne_true)]
    · have e0 : (List.range B.ns.length).filterMap (fun i => if (decide (0 < lw B g n i)) = true then some (V.int (i : Nat)) else none) = (posF B g n).map fun i => V.int (i : Nat) := by
        rw [fm_filter (List.range B.ns.length) (fun i => (decide (0 < lw B g n i)) = true) fun i => V.int (i : Nat)]
        unfold posF
        rw [hB3.ok.len]
        congr 1
        refine List.filter_congr fun i _ => ?_
        cases (decide (0 < lw B g n i)) <;> rfl
      rw [e0] at h4
      exact q D H4 (Evl.fresh_back e13 hD) (e13.trans e4) h4
abbrev sshare : Stmt := top 63
abbrev Nshare : List Str := ["log", "item", "position", "seen", "board"]
theorem scshare : FnScope Nshare ["log", "item", "position", "seen"] (defScope sshare) := ⟨rfl, rfl, rfl, by decide +kernel, rfl, by decide +kernel, by decide +kernel⟩
-- 0 log, 1 item, 2 position, 3 seen, 4 board
theorem can_share (F : DK K mg "share" sshare ["log", "item", "position", "seen"] 3) (T : Txt K mg C CB RC) (c_board_of : C8.Cal P w K mg base 6 "board_of" (spBoardOf C CB) []) (c_need_item : C8.Cal P w K mg base 1 "need_item" (spNeedItem CB) []) (c_need_lists : C8.Cal P w K mg base 5 "need_lists" (spNeedLists CB) []) (c_lists_with : C8.Cal P w K mg base 5 "lists_with" (spListsWith CB) []) (c_count_filled : C8.Cal P w K mg base 4 "count_filled" (spCountFilled CB) []) (c_lowest_terms : C8.Cal P w K mg base 1 "lowest_terms" spLowest []) : CaN P w K mg base 7 "share" 3 (spShare C) := by
  refine F.can scshare (fun vs H Q E h => ?_) (fun f cdv A outer s H vs Q E hr h => ?_)
  · obtain ⟨a, b, n, i, k, rows, g, B, rfl, _⟩ := h
    rfl
  · obtain ⟨a, b, n, i, k, rows, g, B, rfl, hA, hn, hi, hc, q⟩ := h
    refine ⟨_, (pss_cons (ps_set (i := 4) scshare.nd rfl (Or.inl rfl) (C8.pe_c c_board_of hr (by decide) (by rfl) (pa_cons (pv 0) (pa_cons (pv 3) pa_nil))))
      (pss_cons (ps_expr (C8.pe_c c_need_item hr (by decide) (by rfl) (pa_cons (pv 4) (pa_cons (pv 1) pa_nil))))
      (pss_cons (ps_if (pt_not (pt_chain op_le op_lt pe_int (pv 2) (pe_fld_k K (pv 4) rfl))) (pss_one ps_never) pss_nil)
      (pss_cons (ps_expr (C8.pe_c c_need_lists hr (by decide) (by rfl) (pa_cons (pv 4) pa_nil)))
      (pss_one (ps_ret (C8.pe_c c_lowest_terms hr (by decide) (by rfl) (pa_cons (C8.pe_c c_lists_with hr (by decide) (by rfl) (pa_cons (pv 4) (pa_cons (pv 1) (pa_cons (pv 2) pa_nil)))) (pa_cons (C8.pe_c c_count_filled hr (by decide) (by rfl) (pa_cons (pv 4) (pa_cons (pe_fld_k K (pv 4) rfl) pa_nil))) pa_nil))))))))), ?_⟩
    refine ⟨_, rfl, _, rfl, a, b, k, rows, g, B, rfl, hA, fun p H1 _ e1 hB => ?_⟩
    refine ⟨_, rfl, _, rfl, p, n, B, g, rfl, hB, hn, fun H2 e2 => ?_⟩
    have hB2 := hB.mono e2
    obtain ⟨dx, d, gl, l, hp, hd, hl, hg⟩ := hB2.ex
    refine ⟨_, rfl, _, _, rfl, rfl, true, bl_t (decide_eq_true (by omega)), iteT ?_⟩
    refine ⟨_, rfl, p, CB, dx, _, _, rfl, hp, T.clB, T.nB "size" (by decide), bd_size _ _ _ _, _, _, rfl, rfl, true, bl_t (decide_eq_true (by omega)), iteF ?_⟩
    refine ⟨_, rfl, p, B, g, rfl, hB2, hc, fun H3 e3 => ?_⟩
    have hB3 := hB2.mono e3
    refine ⟨_, rfl, _, rfl, _, rfl, p, n, i, B, g, rfl, hB3, hn, by rw [hB3.ok.len]; exact hi, fun H4 e4 => ?_⟩
    have e34 := e3.trans e4
    refine ⟨_, rfl, _, rfl, p, CB, dx, _, _, rfl, e34 _ _ hp, T.clB, T.nB "given" (by decide), bd_given _ _ _ _, ?_⟩
    refine ⟨p, gl, B, g, rfl, ⟨⟨g, hB3.mono e4⟩, e34 _ _ hg, hB3.ok⟩, fun H5 e5 => ?_⟩
    have e15 := (e1.trans e2).trans (e34.trans e5)
    refine ⟨_, _, rfl, lw_nonneg B g n i, hc, cnt_le hB3.few hB3.ok, fun u H6 hu e6 h6 => ?_⟩
    exact q u H6 (Evl.fresh_back e15 hu) (e15.trans e6) h6
abbrev scertain : Stmt := top 58
abbrev Ncertain : List Str := ["log", "seen", "board", "found", "position", "own", "names", "item", "lists"]
theorem sccertain : FnScope Ncertain ["log", "seen"] (defScope scertain) := ⟨rfl, rfl, rfl, by decide +kernel, rfl, by decide +kernel, by decide +kernel⟩
-- 0 log, 1 seen, 2 board, 3 found, 4 position, 5 own, 6 names, 7 item, 8 lists
theorem can_certain (F : DK K mg "certain" scertain ["log", "seen"] 1) (T : Txt K mg C CB RC) (c_board_of : C8.Cal P w K mg base 6 "board_of" (spBoardOf C CB) []) (c_need_lists : C8.Cal P w K mg base 5 "need_lists" (spNeedLists CB) []) (c_options : C8.Cal P w K mg base 5 "options" (spOptions CB) []) : CaN P w K mg base 7 "certain" 1 (spCertain C) := by
  refine F.can sccertain (fun vs H Q E h => ?_) (fun f cdv A outer s H vs Q E hr h => ?_)
  · obtain ⟨a, b, k, rows, g, B, rfl, _⟩ := h
    rfl
  · obtain ⟨a, b, k, rows, g, B, rfl, hA, hc, q⟩ := h
    refine ⟨_, (pss_cons (ps_set (i := 2) sccertain.nd rfl (Or.inl rfl) (C8.pe_c c_board_of hr (by decide) (by rfl) (pa_cons (pv 0) (pa_cons (pv 1) pa_nil))))
      (pss_cons (ps_expr (C8.pe_c c_need_lists hr (by decide) (by rfl) (pa_cons (pv 2) pa_nil)))
      (pss_cons (ps_set (i := 3) sccertain.nd rfl (Or.inl rfl) (pe_lst pa_nil))
      (pss_cons (ps_for PassesOwn.never rfl (pi_enum (by rfl) T.enumerate_ (pa_cons (pe_fld_k K (pv 2) rfl) pa_nil)) (pg_tup_k K (n := 2) rfl (pgs_cons (pg_name (i := 4) sccertain.nd rfl (Or.inl rfl)) (pgs_cons (pg_name (i := 5) sccertain.nd rfl (Or.inl rfl)) pgs_nil))) (pss_cons (ps_set (i := 6) sccertain.nd rfl (Or.inl rfl) (pe_ifExp (pt_cmpR op_notN (pv 5) pe_non (nomark _)) (pe_lst (pa_cons (pv 5) pa_nil)) (pe_lc (own := [("item", 7), ("lists", 8)]) rfl sccertain.nd (pi_list_k K (C8.pe_c c_options hr (by decide) (by rfl) (pa_cons (pv 2) (pa_cons (pe_fld_k K (pv 2) rfl) (pa_cons (pv 4) pa_nil))))) (blkOk_by (N := Ncertain) (sc := defScope scertain) (own := [("item", 7), ("lists", 8)]) (by decide +kernel)) (fun _ _ _ _ _ => (pg_tup_k K (n := 2) rfl (pgs_cons (pg_name (i := 7) sccertain.nd rfl (Or.inl rfl)) (pgs_cons (pg_name (i := 8) sccertain.nd rfl (Or.inl rfl)) pgs_nil)))) (fun _ _ _ _ _ => pts_nil) (fun _ _ _ _ _ => (pv 7)))))
      (pss_one (ps_expr (pe_bm_k K PySem.F.plainAttrs_list PySem.F.slot_list_append PySem.F.type_list_append mt_append (pv 3) (pa_cons (pe_ifExp (pt_cmpR op_eq (pe_callB (call_len_k K) (by rfl) T.len_ (by decide +kernel) (pa_cons (pv 6) pa_nil)) pe_int (nomark _)) (pe_ix (ix_list_k K) (pv 6) pe_int (fun _ _ => rfl)) pe_non) pa_nil))))))
      (pss_one (ps_ret (pv 3))))))), ?_⟩
    refine ⟨_, rfl, _, rfl, a, b, k, rows, g, B, rfl, hA, fun p H1 _ e1 hB => ?_⟩
    refine ⟨_, rfl, p, B, g, rfl, hB, hc, fun H2 e2 => ?_⟩
    have hB2 := hB.mono e2
    obtain ⟨dx, d, gl, l, hp, hd, hl, hg⟩ := hB2.ex
    have g40 : g.length ≤ 40 := by rw [hB2.ok.len]; exact hB2.few
    refine ⟨Nat.zero_le _, fun D hD => ?_⟩
    have e3 : Ex H2 (upd H2 D (.lst [])) := Evl.Ex.new hD
    refine ⟨_, rfl, p, CB, dx, _, _, rfl, e3 _ _ hp, T.clB, T.nB "given" (by decide), bd_given _ _ _ _, gl, g.map vo, rfl, Evl.sq_of (e3 _ _ hg), for_it (walk_enum (xs := g.map vo)) (fun i σ H4 => ∃ y4 y5 y6 y7 y8, σ = [some (.ref a), some (.ref b), some (.ref p), some (.ref D), y4, y5, y6, y7, y8] ∧ Ex H2 H4 ∧ H4 D = some (.lst (((List.range i).map (certAt B g)).map vo)))
      ⟨none, none, none, none, none, rfl, e3, upd_same⟩ (fun i σ H4 _ P => ?_) (fun i x σ H4 H' hi P y => ?_) fun σ H4 P => ?_⟩
    · obtain ⟨_, _, _, _, _, _, e4, _⟩ := P
      exact Evl.sq_of (e4 _ _ hg)
    · obtain ⟨y4, y5, y6, y7, y8, rfl, e4, h4⟩ := P
      obtain ⟨t, x1, z1, rfl, nT, rfl, ex, ez⟩ := y
      have ex : x1 = V.int (i : Nat) := (Option.some.inj ex).symm
      subst ex
      obtain ⟨o, ho, rfl⟩ := get_vo ez
      have hi' : i < g.length := by simpa using hi
      have eT : Ex H4 (upd H4 t (.tup [V.int (i : Nat), vo o])) := Evl.Ex.new nT
      have e5 := e4.trans eT
      refine ⟨t, _, rfl, .inl (.inl upd_same), rfl, _, _, rfl, _, _, rfl, rfl, ?_⟩
      refine ⟨_, rfl, rfl, ?_⟩
      have snocD : ∀ H5, Ex H4 H5 → ∀ z, certAt B g i = z → Ex H2 (upd H5 D (.lst ((((List.range i).map (certAt B g)).map vo) ++ [vo z]))) ∧ (upd H5 D (.lst ((((List.range i).map (certAt B g)).map vo) ++ [vo z]))) D = some (.lst (((List.range (i + 1)).map (certAt B g)).map vo)) := fun H5 e z hz => by
        refine ⟨Evl.Ex.mut (e4.trans e) hD, ?_⟩
        rw [upd_same, List.range_succ, List.map_append, List.map_append, List.map_cons, hz]; rfl
      have dl : (((List.range i).map (certAt B g)).map vo).length < sizeLine := by
        rw [List.length_map, List.length_map, List.length_range]
        exact Nat.lt_of_lt_of_le hi' (Nat.le_trans g40 (by decide))
      cases o with
      | some n =>
        have hca : certAt B g i = some n := by unfold certAt; rw [ho]
        refine ⟨true, rfl, iteT ?_⟩
        refine ⟨_, rfl, (by show 1 ≤ sizeLine; decide), fun z hz => ?_⟩
        have e6 := eT.trans (Evl.Ex.new hz (o := .lst [vo (some n)]))
        have h6 := e6 _ _ h4
        refine ⟨_, rfl, .inl ⟨rfl, _, Evl.sq_of h6⟩, _, rfl, z, _, rfl, .inl (Evl.sq_of upd_same), rfl, true, rfl, iteT ?_⟩
        refine ⟨_, rfl, z, _, _, vo (some n), rfl, rfl, Evl.sq_of upd_same, atI_nat (j := 0) rfl, ?_⟩
        obtain ⟨s1, s2⟩ := snocD _ e6 _ hca
        exact ⟨D, _, _, rfl, rfl, h6, dl, _, _, _, _, _, rfl, s1, s2⟩
      | none =>
        refine ⟨false, rfl, iteF ?_⟩
        have hB5 := hB2.mono e5
        refine ⟨_, rfl, _, rfl, p, CB, dx, _, _, rfl, e5 _ _ hp, T.clB, T.nB "given" (by decide), bd_given _ _ _ _, _, rfl, p, gl, i, B, g, rfl, ⟨⟨g, hB5⟩, e5 _ _ hg, hB5.ok⟩, ho, fun oA H6 ts _ e6 h6 hP => ?_⟩
        refine ⟨oA, rfl, ⟨_, Evl.sq_of h6⟩, fun L hL => ?_⟩
        have tl : ts.length ≤ 40 := by
          rw [hP.len]
          exact Nat.le_trans (List.length_filterMap_le _ _) hB2.few
        refine lcP (walk_list (xs := ts)) (fun j => ((opts B g i)[j]?).map fun o => V.str o.1) hL (by omega) (fun H e => Evl.sq_of (e _ _ h6)) (fun j x H7 H8 Qy Qn hj e y k1 k2 => ?_) fun H7 e7 h7 => ?_
        · obtain ⟨rfl, hx⟩ := y
          obtain ⟨t2, n2, c2, rfl, ho2, ht2⟩ := hP.at_ j x hx
          refine ⟨t2, _, rfl, .inl (.inl (e _ _ ht2)), rfl, _, _, rfl, _, _, rfl, rfl, rfl, ?_⟩
          refine iteT (B := Qn H8) ?_
          refine ⟨_, rfl, k1 _ _ (Evl.Ex.refl _) ?_⟩
          rw [ho2]; rfl
        · have eS : (List.range ts.length).filterMap (fun j => ((opts B g i)[j]?).map fun o => V.str o.1) = (opts B g i).map fun o => V.str o.1 := by
            rw [hP.len]
            exact range_get (opts B g i) _ _ fun j x hx => by rw [hx]; rfl
          rw [eS] at h7
          have e8 := (eT.trans e6).trans e7
          have h8 := e8 _ _ h4
          refine ⟨_, rfl, .inl ⟨rfl, _, Evl.sq_of h8⟩, _, rfl, L, _, rfl, .inl (Evl.sq_of h7), rfl, _, rfl, ?_⟩
          cases hos : opts B g i with
          | nil =>
            refine iteF ?_
            have hca : certAt B g i = none := by unfold certAt; rw [ho]; show one1 _ = _; rw [hos]; rfl
            obtain ⟨s1, s2⟩ := snocD _ e8 _ hca
            exact ⟨D, _, _, rfl, rfl, h8, dl, _, _, _, _, _, rfl, s1, s2⟩
          | cons o1 r =>
            cases r with
            | nil =>
              rw [hos] at h7
              have hca : certAt B g i = some o1.1 := by unfold certAt; rw [ho]; show one1 _ = _; rw [hos]; rfl
              refine iteT ?_
              refine ⟨_, rfl, L, _, _, vo (some o1.1), rfl, rfl, Evl.sq_of h7, atI_nat (j := 0) rfl, ?_⟩
              obtain ⟨s1, s2⟩ := snocD _ e8 _ hca
              exact ⟨D, _, _, rfl, rfl, h8, dl, _, _, _, _, _, rfl, s1, s2⟩
            | cons o2 r =>
              have hca : certAt B g i = none := by unfold certAt; rw [ho]; show one1 _ = _; rw [hos]; rfl
              have : decide (V.int ((List.map (fun o => V.str o.1) (o1 :: o2 :: r)).length : Nat) = V.int 1) = false := by
                refine decide_eq_false fun z => ?_
                injection z with z
                simp only [List.length_map, List.length_cons] at z
                omega
              rw [this]
              refine iteF ?_
              obtain ⟨s1, s2⟩ := snocD _ e8 _ hca
              exact ⟨D, _, _, rfl, rfl, h8, dl, _, _, _, _, _, rfl, s1, s2⟩
    · obtain ⟨y4, y5, y6, y7, y8, rfl, e4, h4⟩ := P
      refine ⟨_, rfl, q D H4 (Evl.fresh_back (e1.trans e2) hD) ((e1.trans e2).trans e4) ?_⟩
      rw [h4, List.length_map]; rfl
end
end K21
/-! ## W13 -/
set_option Elab.async false
set_option linter.all false
set_option maxRecDepth 100000
set_option maxHeartbeats 4000000
/-! A list's number. -/
namespace K21
open PySem PySem.Spec PyProof.Rows L2
theorem gok_sub {ns : List Str} {x y : Gv Str} (h : Gok ns y) (hl : x.length = y.length) (hs : ∀ (j : Nat) n, x[j]? = some (some n) → y[j]? = some (some n)) : Gok ns x := by
  refine ⟨hl.trans h.len, fun n hn => ?_, fun i j n hi hj => h.one i j n (hs i n hi) (hs j n hj)⟩
  obtain ⟨i, hi⟩ := List.mem_iff_getElem?.mp hn
  exact h.mem n (List.mem_of_getElem? (hs i n hi))
theorem shaped_strs {l : List Str} (h : ∀ n ∈ l, okItem n) : pure0 (.list (l.map dS)) = true ∧ SeqAt.shaped (.list (l.map dS)) = true := by
  have h1 : pure0 (.list (l.map dS)) = true := by rw [pure0]; exact pureAll_map l dS fun x hx => item_pure (h x hx)
  refine ⟨h1, shaped_of h1 ?_⟩
  rw [PyData.depth]
  have := depthAll_map l dS 0 fun x _ => by simp [PyData.depth]
  omega
/-- items: a full list that agrees, with a count above nought -/
structure Agree (B : Bd Str) (g : Gv Str) (xs : List Str) : Prop where
  full : Full B g (xs.map some)
theorem map_some_get {xs : List Str} {i : Nat} {o : Option Str} (h : (xs.map some)[i]? = some o) : ∃ n, xs[i]? = some n ∧ o = some n := by
  rw [List.getElem?_map] at h
  obtain ⟨n, hn, rfl⟩ := Option.map_eq_some_iff.mp h
  exact ⟨n, hn, rfl⟩
theorem vo_some (xs : List Str) : (xs.map some).map vo = xs.map V.str := by rw [List.map_map]; rfl
theorem itms_some (xs : List Str) : itms (xs.map some) = xs := by
  unfold itms
  rw [List.filterMap_map]
  exact List.filterMap_some
def spIsFilling (CB : Addr) : Sp := fun vs H Q _ => ∃ (p c : Addr) (B : Bd Str) (g : Gv Str) (xs : List Str), vs = [.ref p, .ref c] ∧ BoardAt CB H p B g ∧ H c = some (.lst (xs.map V.str)) ∧ Full B g (xs.map some) ∧ ∀ H', Ex H H' → Q (.bl true) H'
def numL (B : Bd Str) (g : Gv Str) (xs : List Str) : Int := numF B ltS xs g 0 g 0
def spNumber (C : Kd → Addr) : Sp := fun vs H Q _ => ∃ (a b c : Addr) (k : Kd) (rows : List (Str × Int)) (g : Gv Str) (B : Bd Str) (xs : List Str), vs = [.ref a, .ref c, .ref b] ∧ Asked C H a b k rows g B ∧ H c = some (.lst (xs.map V.str)) ∧ Full B g (xs.map some) ∧
  ∀ H', Ex H H' → Q (.int (numL B g xs)) H'
section
variable {P : Program} {w : World} {K : PySem.W.Frag} {mg : Str → Option Value} {base : Heap} {C : Kd → Addr} {CB RC : Addr}
abbrev sis_filling : Stmt := top 55
abbrev Nis_filling : List Str := ["board", "items", "own", "item"]
theorem scis_filling : FnScope Nis_filling ["board", "items"] (defScope sis_filling) := ⟨rfl, rfl, rfl, by decide +kernel, rfl, by decide +kernel, by decide +kernel⟩
-- 0 board, 1 items, 2 own, 3 item
theorem cal_is_filling (F : DF K mg "is_filling" sis_filling ["board", "items"]) (T : Txt K mg C CB RC) (c_count_filled : C8.Cal P w K mg base 4 "count_filled" (spCountFilled CB) []) : C8.Cal P w K mg base 5 "is_filling" (spIsFilling CB) [] := by
  refine F.cal scis_filling (fun vs H Q E h => ?_) (fun f cdv A outer s H vs Q E hr h => ?_)
  · obtain ⟨p, c, B, g, xs, rfl, _⟩ := h
    rfl
  · obtain ⟨p, c, B, g, xs, rfl, hB, hc, hF, q⟩ := h
    obtain ⟨dx, d, gl, l, hp, hd, hl, hg⟩ := hB.ex
    have hxl : xs.length = B.ns.length := by have := hF.ok.len; rwa [List.length_map] at this
    have hgl : g.length = B.ns.length := hB.ok.len
    have few := hB.few
    have hperm : xs.Perm B.ns := by have := itms_perm (asc_nodup hB.asc) hF.ok hF.full; rwa [itms_some] at this
    refine ⟨_, (pss_cons (ps_if (PW.pt (pw_or (pt_not (pt_val (pe_callB (call_isi_k K) (by rfl) T.isinstance_ (by decide +kernel) (pa_cons (pv 1) (pa_cons (pe_bltn (v := .ty "list") (by rfl) T.list_ (by decide +kernel) rfl) pa_nil))))) (pw_or (pt_cmpR op_ne (pe_callB (call_len_k K) (by rfl) T.len_ (by decide +kernel) (pa_cons (pv 1) pa_nil)) (pe_fld_k K (pv 0) rfl) (nomark _)) (pw_or1 (pt_not (pt_val (pe_callB (cr_all_k K rfl) (by rfl) T.all_ (by decide +kernel) (pa_cons (pe_lc (own := [("item", 3)]) rfl scis_filling.nd (pi_list_k K (pv 1)) (blkOk_by (N := Nis_filling) (sc := defScope sis_filling) (own := [("item", 3)]) (by decide +kernel)) (fun _ _ _ _ _ => (pg_name (i := 3) scis_filling.nd rfl (Or.inl rfl))) (fun _ _ _ _ _ => pts_nil) (fun _ _ _ _ _ => (pe_callB (call_isi_k K) (by rfl) T.isinstance_ (by decide +kernel) (pa_cons (pv 3) (pa_cons (pe_bltn (v := .ty "str") (by rfl) T.str_ (by decide +kernel) rfl) pa_nil))))) pa_nil)))))))) (pss_one (ps_ret pe_bl)) pss_nil)
      (pss_cons (ps_if (PW.pt (pw_or (pt_cmpR (op_neD_k K (hr_u hr)) (pe_callB cr_sortedS (by rfl) T.sorted_ (by decide +kernel) (pa_cons (pv 1) pa_nil)) (pe_callB (call_sortedD rfl) (by rfl) T.sorted_ (by decide +kernel) (pa_cons (pe_fld_k K (pv 0) rfl) pa_nil)) (nomark _)) (pw_or1 (pt_cmpR op_eq (C8.pe_c c_count_filled hr (by decide) (by rfl) (pa_cons (pv 0) (pa_cons (pv 1) pa_nil))) pe_int (nomark _))))) (pss_one (ps_ret pe_bl)) pss_nil)
      (pss_one (ps_ret (pe_callB (cr_all_k K rfl) (by rfl) T.all_ (by decide +kernel) (pa_cons (pe_lc (own := [("own", 2), ("item", 3)]) rfl scis_filling.nd (pi_zip (by rfl) T.zip_ (pa_cons (pe_fld_k K (pv 0) rfl) (pa_cons (pv 1) pa_nil))) (blkOk_by (N := Nis_filling) (sc := defScope sis_filling) (own := [("own", 2), ("item", 3)]) (by decide +kernel)) (fun _ _ _ _ _ => (pg_tup_k K (n := 2) rfl (pgs_cons (pg_name (i := 2) scis_filling.nd rfl (Or.inl rfl)) (pgs_cons (pg_name (i := 3) scis_filling.nd rfl (Or.inl rfl)) pgs_nil)))) (fun _ _ _ _ _ => pts_nil) (fun _ _ _ _ _ => (pe_or (pe_cmpR op_isN (pv 2) pe_non (nomark _)) (pe_one (pe_cmpR op_eq (pv 2) (pv 3) (nomark _)))))) pa_nil)))))), ?_⟩
    refine ⟨_, rfl, _, _, _, _, true, rfl, .ty _, .base (.lst hc), kit_ty (by decide +kernel), true, rfl, iteF ?_⟩
    refine ⟨_, rfl, c, _, rfl, .inl (Evl.sq_of hc), _, rfl, p, CB, dx, _, _, rfl, hp, T.clB, T.nB "size" (by decide), bd_size _ _ _ _, rfl, false, ?_, iteF ?_⟩
    · refine bl_f ?_
      rw [List.length_map, hxl]; simp
    refine ⟨_, rfl, c, rfl, ⟨_, Evl.sq_of hc⟩, fun D hD => lcP (walk_list (xs := xs.map V.str)) (fun _ => some (.bl true)) hD (by rw [List.length_map]; omega) (fun H1 e => Evl.sq_of (e _ _ hc)) (fun i x H1 H' Qy Qn hi e y k1 k2 => ?_) fun H1 e1 h1 => ?_⟩
    · obtain ⟨rfl, hx⟩ := y
      rw [List.getElem?_map] at hx
      obtain ⟨n, _, rfl⟩ := Option.map_eq_some_iff.mp hx
      refine ⟨rfl, iteT (B := Qn H') ?_⟩
      exact ⟨_, rfl, _, _, _, _, true, rfl, .ty _, .base (.str _), kit_ty (by decide +kernel), k1 _ _ (Evl.Ex.refl _) rfl⟩
    try unfold tNil
    refine rd_all h1 ⟨true, rfl, iteF ?_⟩
    -- the same items
    have hc1 := e1 _ _ hc
    have hB1 := hB.mono e1
    have hp1 := e1 _ _ hp
    refine ⟨_, rfl, c, xs, rfl, Evl.sq_of hc1, by omega, fun ys s1 hys hsy hs1 => ?_⟩
    have eys : ys = B.ns := sorted_the hsy (hys.trans hperm) hB.asc
    subst eys
    have e2 : Ex H1 (upd H1 s1 (.lst (B.ns.map V.str))) := Evl.Ex.new hs1
    refine ⟨_, rfl, p, CB, dx, _, _, rfl, e2 _ _ hp1, T.clB, T.nB "floors" (by decide), bd_floors _ _ _ _, ?_⟩
    refine ⟨d, _, l, rfl, .inl (e2 _ _ (e1 _ _ hd)), by unfold flK; rw [List.map_map]; rfl, (by rw [hl.length_eq]; omega), fun zs s2 hzs hsz hs2 => ?_⟩
    have ezs : zs = B.ns := sorted_the hsz (hzs.trans hl) hB.asc
    subst ezs
    have e3 : Ex (upd H1 s1 (.lst (B.ns.map V.str))) (upd (upd H1 s1 (.lst (B.ns.map V.str))) s2 (.lst (B.ns.map V.str))) := Evl.Ex.new hs2
    obtain ⟨p1, p2⟩ := shaped_strs hB.its
    refine ⟨_, _, dp_strs (e3 _ _ upd_same), dp_strs upd_same, p2, p2, false, ?_, iteF ?_⟩
    · rw [(eqv_iff _ _ p1 p1).mpr rfl]; rfl
    have e123 := (e1.trans e2).trans e3
    refine ⟨_, rfl, _, rfl, p, c, B, xs.map some, rfl, ⟨⟨g, hB.mono e123⟩, by rw [vo_some]; exact e123 _ _ hc, hF.ok⟩, fun H4 e4 => ?_⟩
    have e14 := e123.trans e4
    refine ⟨rfl, false, ?_, iteF ?_⟩
    · refine bl_f (decide_eq_false fun z => ?_)
      injection z with z
      have := hF.pos
      omega
    -- what is given
    refine ⟨_, rfl, p, CB, dx, _, _, rfl, e14 _ _ hp, T.clB, T.nB "given" (by decide), bd_given _ _ _ _, _, rfl, gl, c, _, _, rfl, Evl.sq_of (e14 _ _ hg), Evl.sq_of (e14 _ _ hc), fun D2 hD2 => ?_⟩
    refine lcP (walk_zip (xs := g.map vo) (ys := xs.map V.str) (n := B.ns.length) (by simp; omega)) (fun _ => some (.bl true)) hD2 (by omega) (fun H5 e => ⟨Evl.sq_of (e _ _ (e14 _ _ hg)), Evl.sq_of (e _ _ (e14 _ _ hc))⟩) (fun i x H5 H' Qy Qn hi e y k1 k2 => ?_) fun H5 e5 h5 => ?_
    · obtain ⟨t, x1, z1, rfl, nT, rfl, ex, ez⟩ := y
      obtain ⟨o, ho, rfl⟩ := get_vo ex
      have ez : (xs.map V.str)[i]? = some z1 := ez
      rw [List.getElem?_map] at ez
      obtain ⟨n, hn, rfl⟩ := Option.map_eq_some_iff.mp ez
      have eT : Ex H5 (upd H5 t (.tup [vo o, V.str n])) := Evl.Ex.new nT
      refine ⟨t, _, rfl, .inl (.inl upd_same), rfl, _, _, rfl, _, _, rfl, rfl, rfl, ?_⟩
      refine iteT (B := Qn (upd H5 t (.tup [vo o, V.str n]))) ?_
      refine ⟨_, rfl, rfl, ?_⟩
      cases o with
      | none => exact ⟨true, rfl, iteT (k1 _ _ eT rfl)⟩
      | some m =>
        refine ⟨false, rfl, iteF ?_⟩
        refine ⟨_, rfl, _, rfl, rfl, ?_⟩
        have := hF.ext i m ho
        obtain ⟨n2, hn2, e2⟩ := map_some_get this
        rw [hn] at hn2
        have emn : m = n := by rw [← Option.some.inj hn2] at e2; exact Option.some.inj e2
        subst emn
        have ed : decide (vo (some m) = V.str m) = true := decide_eq_true rfl
        rw [ed]
        exact k1 _ _ eT rfl
    · try unfold tNil
      exact rd_all h5 (q _ (e14.trans e5))
abbrev slist_number : Stmt := top 56
abbrev Nlist_number : List Str := ["log", "items", "seen", "board", "given", "found", "position", "own", "item", "lists"]
theorem sclist_number : FnScope Nlist_number ["log", "items", "seen"] (defScope slist_number) := ⟨rfl, rfl, rfl, by decide +kernel, rfl, by decide +kernel, by decide +kernel⟩
-- 0 log, 1 items*, 2 seen, 3 board, 4 given, 5 found, 6 position*, 7 own, 8 item, 9 lists
theorem can_list_number (F : DK K mg "list_number" slist_number ["log", "items", "seen"] 2) (T : Txt K mg C CB RC) (c_board_of : C8.Cal P w K mg base 6 "board_of" (spBoardOf C CB) []) (c_is_filling : C8.Cal P w K mg base 5 "is_filling" (spIsFilling CB) []) (c_options : C8.Cal P w K mg base 5 "options" (spOptions CB) []) (c_with_item : C8.Cal P w K mg base 1 "with_item" spWithItem []) : CaN P w K mg base 7 "list_number" 2 (spNumber C) := by
  refine F.can sclist_number (fun vs H Q E h => ?_) (fun f cdv A outer s H vs Q E hr h => ?_)
  · obtain ⟨a, b, c, k, rows, g, B, xs, rfl, _⟩ := h
    rfl
  · obtain ⟨a, b, c, k, rows, g, B, xs, rfl, hA, hc, hF, q⟩ := h
    refine ⟨_, (pss_cons (ps_set (i := 3) sclist_number.nd rfl (Or.inl rfl) (C8.pe_c c_board_of hr (by decide) (by rfl) (pa_cons (pv 0) (pa_cons (pv 2) pa_nil))))
      (pss_cons (ps_if (pt_not (pt_val (C8.pe_c c_is_filling hr (by decide) (by rfl) (pa_cons (pv 3) (pa_cons (pv 1) pa_nil))))) (pss_one ps_never) pss_nil)
      (pss_cons (ps_set (i := 4) sclist_number.nd rfl (Or.inl rfl) (pe_fld_k K (pv 3) rfl))
      (pss_cons (ps_set (i := 5) sclist_number.nd rfl (Or.inl rfl) pe_int)
      (pss_cons (ps_for PassesOwn.never rfl (pi_enum (by rfl) T.enumerate_ (pa_cons (pe_fld_k K (pv 3) rfl) pa_nil)) (pg_tup_k K (n := 2) rfl (pgs_cons (pg_name (i := 6) sclist_number.nd rfl (Or.inr rfl)) (pgs_cons (pg_name (i := 7) sclist_number.nd rfl (Or.inl rfl)) pgs_nil))) (pss_one (ps_if (pt_cmpR op_isN (pv 7) pe_non (nomark _)) (pss_cons (ps_aug (i := 5) sclist_number.nd rfl (Or.inl rfl) (pe_callB (cr_sum_k K rfl) (by rfl) T.sum_ (by decide +kernel) (pa_cons (pe_lc (own := [("item", 8), ("lists", 9)]) rfl sclist_number.nd (pi_list_k K (C8.pe_c c_options hr (by decide) (by rfl) (pa_cons (pv 3) (pa_cons (pv 4) (pa_cons (pv 6) pa_nil))))) (blkOk_by (N := Nlist_number) (sc := defScope slist_number) (own := [("item", 8), ("lists", 9)]) (by decide +kernel)) (fun _ _ _ _ _ => (pg_tup_k K (n := 2) rfl (pgs_cons (pg_name (i := 8) sclist_number.nd rfl (Or.inl rfl)) (pgs_cons (pg_name (i := 9) sclist_number.nd rfl (Or.inl rfl)) pgs_nil)))) (fun _ _ _ _ _ => (pts_one (pt_cmpR op_lt_str (pv 8) (pe_ix (ix_list_k K) (pv 1) (pv 6) (fun _ _ => rfl)) (nomark _)))) (fun _ _ _ _ _ => (pv 9))) pa_nil)) ip_add)
      (pss_one (ps_set (i := 4) sclist_number.nd rfl (Or.inl rfl) (C8.pe_c c_with_item hr (by decide) (by rfl) (pa_cons (pv 4) (pa_cons (pv 6) (pa_cons (pe_ix (ix_list_k K) (pv 1) (pv 6) (fun _ _ => rfl)) pa_nil))))))) pss_nil)))
      (pss_one (ps_ret (pv 5)))))))), ?_⟩
    refine ⟨_, rfl, _, rfl, a, b, k, rows, g, B, rfl, hA, fun p H1 _ e1 hB => ?_⟩
    refine ⟨_, rfl, _, rfl, p, c, B, g, xs, rfl, hB, e1 _ _ hc, hF, fun H2 e2 => ⟨true, rfl, iteF ?_⟩⟩
    have hB2 := hB.mono e2
    have e12 := e1.trans e2
    have hc2 := e12 _ _ hc
    obtain ⟨dx, d, gl, l, hp, hd, hl, hg⟩ := hB2.ex
    have hxl : xs.length = B.ns.length := by have := hF.ok.len; rwa [List.length_map] at this
    have hgl : g.length = B.ns.length := hB2.ok.len
    have few := hB2.few
    refine ⟨_, rfl, p, CB, dx, _, _, rfl, hp, T.clB, T.nB "given" (by decide), bd_given _ _ _ _, ?_⟩
    refine ⟨_, rfl, p, CB, dx, _, _, rfl, hp, T.clB, T.nB "given" (by decide), bd_given _ _ _ _, gl, g.map vo, rfl, Evl.sq_of hg, for_it (walk_enum (xs := g.map vo)) (fun i σ H4 => ∃ (gA : Addr) (x : Gv Str) (f : Int) (y6 y7 y8 y9 : Option V), σ = [some (.ref a), some (.ref c), some (.ref b), some (.ref p), some (.ref gA), some (.int f), y6, y7, y8, y9] ∧ Ex H2 H4 ∧ H4 gA = some (.lst (x.map vo)) ∧
        x.length = g.length ∧ (∀ (j : Nat), j < i → x[j]? = (xs[j]?).map some) ∧ (∀ (j : Nat), i ≤ j → x[j]? = g[j]?) ∧ numF B ltS xs (g.drop i) i x f = numL B g xs)
      ⟨gl, g, 0, none, none, none, none, rfl, Evl.Ex.refl _, hg, rfl, fun j hj => by omega, fun j _ => rfl, rfl⟩ (fun i σ H4 _ P => ?_) (fun i v σ H4 H' hi P y => ?_) fun σ H4 P => ?_⟩
    · obtain ⟨gA, x, f, y6, y7, y8, y9, rfl, e4, _⟩ := P
      exact Evl.sq_of (e4 _ _ hg)
    · obtain ⟨gA, x, f, y6, y7, y8, y9, rfl, e4, hx, xl, hlo, hhi, hnum⟩ := P
      obtain ⟨t, x1, z1, rfl, nT, rfl, ex, ez⟩ := y
      have ex : x1 = V.int (i : Nat) := (Option.some.inj ex).symm
      subst ex
      obtain ⟨o, ho, rfl⟩ := get_vo ez
      have hi' : i < g.length := by simpa using hi
      have hxs : xs[i]? = some xs[i] := List.getElem?_eq_getElem (by omega)
      have eT : Ex H4 (upd H4 t (.tup [V.int (i : Nat), vo o])) := Evl.Ex.new nT
      have e5 := e4.trans eT
      have hdrop : g.drop i = o :: g.drop (i + 1) := by
        obtain ⟨h5, h6⟩ := List.getElem?_eq_some_iff.mp ho
        rw [List.drop_eq_getElem_cons h5, h6]
      refine ⟨t, _, rfl, .inl (.inl upd_same), rfl, _, _, rfl, _, _, rfl, rfl, ?_⟩
      refine ⟨_, rfl, rfl, ?_⟩
      rw [hdrop] at hnum
      cases o with
      | some m =>
        refine ⟨false, rfl, iteF ?_⟩
        refine ⟨gA, x, f, _, _, _, _, rfl, e5, eT _ _ hx, xl, fun j hj => ?_, fun j hj => hhi j (by omega), hnum⟩
        by_cases z : j = i
        · subst z
          rw [hhi j (Nat.le_refl _), ho]
          have := hF.ext j m ho
          rw [List.getElem?_map] at this
          exact this.symm
        · exact hlo j (by omega)
      | none =>
        refine ⟨true, rfl, iteT ?_⟩
        have hsub : ∀ (j : Nat) n, x[j]? = some (some n) → (xs.map some)[j]? = some (some n) := fun j n hj => by
          by_cases z : j < i
          · rw [hlo j z] at hj; rw [List.getElem?_map]; exact hj
          · exact hF.ext j n (by rw [← hhi j (by omega)]; exact hj)
        have okx : Gok B.ns x := gok_sub hF.ok (by rw [xl, List.length_map]; omega) hsub
        have hxi : x[i]? = some none := by rw [hhi i (Nat.le_refl _)]; exact ho
        refine ⟨_, rfl, ?_⟩
        refine ⟨_, rfl, _, rfl, _, rfl, p, gA, i, B, x, rfl, ⟨⟨g, hB2.mono e5⟩, eT _ _ hx, okx⟩, hxi, fun oA H6 ts _ e6 h6 hP => ?_⟩
        refine ⟨oA, rfl, ⟨_, Evl.sq_of h6⟩, fun L hL => ?_⟩
        have tl : ts.length ≤ 40 := by
          rw [hP.len]
          exact Nat.le_trans (List.length_filterMap_le _ _) few
        have e56 := e5.trans e6
        refine lcP (walk_list (xs := ts)) (fun j => ((opts B x i)[j]?).bind fun o => if (ltO ltS o.1 xs[i]?) = true then some (V.int o.2) else none) hL (by omega) (fun H e => Evl.sq_of (e _ _ h6)) (fun j v2 H7 H8 Qy Qn hj e y k1 k2 => ?_) fun H7 e7 h7 => ?_
        · obtain ⟨rfl, hx2⟩ := y
          obtain ⟨t2, n2, c2, rfl, ho2, ht2⟩ := hP.at_ j v2 hx2
          refine ⟨t2, _, rfl, .inl (.inl (e _ _ ht2)), rfl, _, _, rfl, _, _, rfl, rfl, rfl, ?_⟩
          refine ⟨_, rfl, _, rfl, _, rfl, c, _, _, .str xs[i], rfl, rfl, Evl.sq_of ((e56.trans e) _ _ hc2), atI_nat (by rw [List.getElem?_map, hxs]; rfl), _, _, rfl, rfl, _, rfl, ?_⟩
          have elt : ltO ltS n2 xs[i]? = decide (n2.cps.toList < xs[i].cps.toList) := by rw [hxs]; rfl
          rw [← elt]
          by_cases z : ltO ltS n2 xs[i]? = true
          · rw [z]
            refine iteT ⟨_, rfl, k1 _ _ (Evl.Ex.refl _) ?_⟩
            rw [ho2]
            show (if _ then _ else _) = _
            rw [if_pos z]
          · rw [Bool.not_eq_true] at z
            rw [z]
            refine iteF (k2 _ (Evl.Ex.refl _) ?_)
            rw [ho2]
            show (if _ then _ else _) = _
            rw [if_neg (by rw [z]; exact Bool.false_ne_true)]
        · have eS : (List.range ts.length).filterMap (fun j => ((opts B x i)[j]?).bind fun o => if (ltO ltS o.1 xs[i]?) = true then some (V.int o.2) else none) = (((opts B x i).filter fun o => ltO ltS o.1 xs[i]?).map (·.2)).map V.int := by
            rw [hP.len, range_filter (opts B x i) _ (fun o => if (ltO ltS o.1 xs[i]?) = true then some (V.int o.2) else none) fun j y hy => by rw [hy]; rfl]
            rw [fm_filter (opts B x i) (fun o => ltO ltS o.1 xs[i]? = true) fun o => V.int o.2, List.map_map]
            congr 1
            refine List.filter_congr fun o _ => ?_
            cases ltO ltS o.1 xs[i]? <;> rfl
          rw [eS] at h7
          refine ⟨L, _, rfl, Evl.sq_of h7, _, _, rfl, rfl, ?_⟩
          have e8 := e6.trans e7
          have hx8 := e8 _ _ (eT _ _ hx)
          refine ⟨_, rfl, _, rfl, _, rfl, _, rfl, c, _, _, .str xs[i], rfl, rfl, Evl.sq_of ((e5.trans e8) _ _ hc2), atI_nat (by rw [List.getElem?_map, hxs]; rfl), gA, i, .str xs[i], _, rfl, hx8, by rw [List.length_map, xl]; exact hi', by rw [List.length_map, xl]; omega, fun nA H9 hnA e9 h9 => ?_⟩
          refine ⟨nA, x.set i (some xs[i]), _, _, _, _, _, rfl, (e5.trans e8).trans e9, by rw [h9, List.map_set]; rfl, by rw [List.length_set]; exact xl, fun j hj => ?_, fun j hj => ?_, ?_⟩
          · by_cases z : i = j
            · subst z
              rw [List.getElem?_set_self (by rw [xl]; exact hi'), hxs]; rfl
            · rw [List.getElem?_set_ne z]
              exact hlo j (by omega)
          · rw [List.getElem?_set_ne (by omega)]
            exact hhi j (by omega)
          · rw [numF, hxs] at hnum
            rw [← hnum, hxs]
    · obtain ⟨gA, x, f, y6, y7, y8, y9, rfl, e4, hx, xl, hlo, hhi, hnum⟩ := P
      refine ⟨_, rfl, ?_⟩
      rw [List.length_map, List.drop_length, numF] at hnum
      rw [hnum]
      exact q _ (e12.trans e4)
end
end K21
/-! ## W14 -/
set_option Elab.async false
set_option linter.all false
set_option maxRecDepth 100000
set_option maxHeartbeats 4000000
/-! The law's draws. -/
namespace K21
open PySem PySem.Spec PyProof.Rows L2
/-- all but a keeps -/
abbrev Eb (a : Addr) (H H' : Hp) : Prop := ∀ b o, b ≠ a → H b = some o → H' b = some o
theorem Eb.refl (a : Addr) (H : Hp) : Eb a H H := fun _ _ _ h => h
theorem Eb.trans {a : Addr} {H1 H2 H3 : Hp} (h : Eb a H1 H2) (k : Eb a H2 H3) : Eb a H1 H3 := fun b o n q => k b o n (h b o n q)
theorem Eb.ofEx {a : Addr} {H H' : Hp} (e : Ex H H') : Eb a H H' := fun b o _ q => e b o q
theorem Eb.set {a : Addr} {H : Hp} {o : HO} : Eb a H (upd H a o) := fun b x n q => by rw [upd_ne n]; exact q
theorem Eb.ex_new {a : Addr} {H H' : Hp} (ha : H a = none) (e : Eb a H H') : Ex H H' := fun b o q => e b o (fun z => by rw [z, ha] at q; cases q) q
/-- the draws' list -/
def FeedAt (H : Hp) (a : Addr) : Prop := ∃ d m c : Int, H a = some (.lst [.int d, .int m, .int c])
theorem FeedAt.ex {H H' : Hp} {a : Addr} (h : FeedAt H a) (e : Ex H H') : FeedAt H' a := by
  obtain ⟨d, m, c, h⟩ := h
  exact ⟨d, m, c, e _ _ h⟩
theorem FeedAt.eb {H H' : Hp} {a b : Addr} (h : FeedAt H a) (e : Eb b H H') (n : a ≠ b) : FeedAt H' a := by
  obtain ⟨d, m, c, h⟩ := h
  exact ⟨d, m, c, e _ _ n h⟩
theorem feed_ne {H : Hp} {a b : Addr} {o : HO} (h : FeedAt H a) (hb : H b = some o) (ho : ∀ d m c : Int, o ≠ .lst [.int d, .int m, .int c]) : b ≠ a := fun z => by
  obtain ⟨d, m, c, h⟩ := h
  rw [z, h] at hb
  exact ho d m c (Option.some.inj hb).symm
theorem eb_back {a q : Addr} {H H' : Hp} (f : FeedAt H' a) (e : Eb a H H') (hq : H' q = none) (hf : FeedAt H a) : H q = none := by
  cases z : H q with
  | none => rfl
  | some o =>
    by_cases n : q = a
    · subst n
      obtain ⟨d, m, c, h⟩ := f
      rw [h] at hq; cases hq
    · rw [e q o n z] at hq; cases hq
theorem feed_some {H : Hp} {a q : Addr} (f : FeedAt H a) (hq : H q = none) : a ≠ q := fun z => by
  obtain ⟨d, m, c, h⟩ := f
  rw [z, hq] at h; cases h
def spFeed (K : PySem.W.Frag) : Sp := fun vs H Q _ => ∃ (a : Addr) (ns : List Int), vs = [.ref a, .int 0] ∧ SqL K H a (ns.map V.int) ∧ ∀ q H', H q = none → Ex H H' → FeedAt H' q → Q (.ref q) H'
def spPick : Sp := fun vs H Q _ => ∃ (a : Addr) (n : Int), vs = [.ref a, .int n] ∧ FeedAt H a ∧ 0 < n ∧ n ≤ 10 ^ 12 ∧ ∀ (i : Int) H', Eb a H H' → FeedAt H' a → 0 ≤ i → i < n → Q (.int i) H'
def spShuffle : Sp := fun vs H Q _ => ∃ (a b : Addr) (xs : List V), vs = [.ref a, .ref b] ∧ FeedAt H a ∧ b ≠ a ∧ H b = some (.lst xs) ∧ xs.length ≤ 60 ∧
  ∀ q H' ys, H q = none → Eb a H H' → FeedAt H' a → H' q = some (.lst ys) → ys.Perm xs → Q (.ref q) H'
theorem log_small {n : Int} (h0 : 0 < n) (h : n ≤ 10 ^ 12) : n.natAbs.log2 < 9000 := by
  have h1 : n.natAbs < 2 ^ 64 := by omega
  have := (Nat.log2_lt (n := n.natAbs) (k := 64) (by omega)).mpr h1
  omega
section
variable {P : Program} {w : World} {K : PySem.W.Frag} {mg : Str → Option Value} {base : Heap} {C : Kd → Addr} {CB RC : Addr}
abbrev slaw_feed : Stmt := top 65
abbrev Nlaw_feed : List Str := ["_law_script", "_law_k", "_law_cell"]
theorem sclaw_feed : FnScope Nlaw_feed ["_law_script", "_law_k"] (defScope slaw_feed) := ⟨rfl, rfl, rfl, by decide +kernel, rfl, by decide +kernel, by decide +kernel⟩
-- 0 _law_script, 1 _law_k, 2 _law_cell
theorem cal_feed (F : DF K mg "_law_feed" slaw_feed ["_law_script", "_law_k"]) (T : Txt K mg C CB RC) : C8.Cal P w K mg base 1 "_law_feed" (spFeed K) [] := by
  refine F.cal sclaw_feed (fun vs H Q E h => ?_) (fun f cdv A outer s H vs Q E hr h => ?_)
  · obtain ⟨a, ns, rfl, _⟩ := h
    rfl
  · obtain ⟨a, ns, rfl, hs, q⟩ := h
    refine ⟨_, (pss_cons (ps_set (i := 2) sclaw_feed.nd rfl (Or.inl rfl) pe_int)
      (pss_cons (ps_if (pt_cmpR op_lt (pv 1) (pe_callB (call_len_k K) (by rfl) T.len_ (by decide +kernel) (pa_cons (pv 0) pa_nil)) (nomark _)) (pss_one (ps_set (i := 2) sclaw_feed.nd rfl (Or.inl rfl) (pe_ix (ix_list_k K) (pv 0) (pv 1) (fun _ _ => rfl)))) pss_nil)
      (pss_one (ps_ret (pe_lst (pa_cons (pe_callB (call_max2 rfl) (by rfl) T.max_ (by decide +kernel) (pa_cons pe_int (pa_cons (pe_op op_sub (pe_callB call_abs (by rfl) T.abs_ (by decide +kernel) (pa_cons (pv 2) pa_nil)) (pe_op op_pow pe_int pe_int)) pa_nil))) (pa_cons (pe_op op_mod (pe_op op_add (pe_op op_add (pe_op op_mul (pv 2) pe_int) (pe_op op_mul pe_int (pv 1))) pe_int) pe_int) (pa_cons pe_int pa_nil)))))))), ?_⟩
    have fin : ∀ c : Int, tRet (tLst (tCons (tCB (fun xs H Q => ∃ i j, xs = [.int i, .int j] ∧ Q (.int (if j > i then j else i)) H) (tCons (tC (.int 0)) (tCons (tOp (rI0 fun i j => .int (i - j)) (tCB (fun xs H Q => ∃ i, xs = [.int i] ∧ Q (.int (if i < 0 then -i else i)) H) (tCons (tVar 2) tNil)) (tOp (rI CPow fun i j => .int (i ^ j.toNat)) (tC (.int 10)) (tC (.int 18)))) tNil)))
        (tCons (tOp (rI (fun _ j => 0 < j) fun i j => .int (i % j)) (tOp (rI0 fun i j => .int (i + j)) (tOp (rI0 fun i j => .int (i + j)) (tOp (rI CMul fun i j => .int (i * j)) (tVar 2) (tC (.int 173))) (tOp (rI CMul fun i j => .int (i * j)) (tC (.int 9203)) (tVar 1))) (tC (.int 43))) (tC (.int 2305843009213693951))) (tCons (tC (.int 0)) tNil))))
        { nx := fun _ H' => Q .non H', rt := Q } [some (.ref a), some (.int 0), some (.int c)] H := fun c => by
      refine ⟨_, rfl, _, rfl, _, _, rfl, rfl, ⟨by omega, by omega, by decide⟩, _, _, rfl, rfl, _, _, rfl, ?_⟩
      refine ⟨_, rfl, _, _, rfl, rfl, .inr ⟨by omega, by omega⟩, _, rfl, _, _, rfl, rfl, .inl ⟨by omega, by omega⟩, _, _, rfl, rfl, _, _, rfl, rfl, _, _, rfl, rfl, by omega, (by show 3 ≤ sizeLine; decide), fun q1 hq1 => ?_⟩
      exact q q1 _ hq1 (Evl.Ex.new hq1) ⟨_, _, _, upd_same⟩
    refine ⟨_, rfl, _, rfl, a, _, rfl, .inl hs, _, _, rfl, rfl, _, rfl, ?_⟩
    cases ns with
    | nil => exact iteF (fin 0)
    | cons c r =>
      rw [decide_eq_true (by simp)]
      refine iteT ?_
      refine ⟨_, rfl, _, rfl, a, _, _, .int c, rfl, rfl, hs, atI_nat (j := 0) rfl, ?_⟩
      exact fin c
abbrev slaw_pick : Stmt := top 66
abbrev Nlaw_pick : List Str := ["_law_feed_here", "_law_wide", "_law_digit", "_law_mixed"]
theorem sclaw_pick : FnScope Nlaw_pick ["_law_feed_here", "_law_wide"] (defScope slaw_pick) := ⟨rfl, rfl, rfl, by decide +kernel, rfl, by decide +kernel, by decide +kernel⟩
-- 0 _law_feed_here, 1 _law_wide, 2 _law_digit, 3 _law_mixed
theorem cal_pick (F : DF K mg "_law_pick" slaw_pick ["_law_feed_here", "_law_wide"]) (T : Txt K mg C CB RC) : C8.Cal P w K mg base 1 "_law_pick" spPick [] := by
  refine F.cal sclaw_pick (fun vs H Q E h => ?_) (fun f cdv A outer s H vs Q E hr h => ?_)
  · obtain ⟨a, n, rfl, _⟩ := h
    rfl
  · obtain ⟨a, n, rfl, ⟨d, m, c, ha⟩, hn0, hn1, q⟩ := h
    have hlog := log_small hn0 hn1
    refine ⟨_, (pss_cons (ps_if (pt_cmpR op_gt (pe_ix (ix_list_k K) (pv 0) pe_int (fun _ _ => rfl)) pe_int (nomark _)) (pss_cons (ps_set (i := 2) sclaw_pick.nd rfl (Or.inl rfl) (pe_op op_mod (pe_ix (ix_list_k K) (pv 0) pe_int (fun _ _ => rfl)) (pv 1)))
      (pss_cons (ps_asg (pe_op op_fdivW (pe_ix (ix_list_k K) (pv 0) pe_int (fun _ _ => rfl)) (pv 1)) (pg_sub (pv 0) pe_int set_list))
      (pss_one (ps_ret (pv 2))))) pss_nil)
      (pss_cons (ps_asg (pe_op op_add (pe_ix (ix_list_k K) (pv 0) pe_int (fun _ _ => rfl)) pe_int) (pg_sub (pv 0) pe_int set_list))
      (pss_cons (ps_set (i := 3) sclaw_pick.nd rfl (Or.inl rfl) (pe_op op_mod (pe_op op_add (pe_ix (ix_list_k K) (pv 0) pe_int (fun _ _ => rfl)) (pe_op op_mul pe_int (pe_ix (ix_list_k K) (pv 0) pe_int (fun _ _ => rfl)))) pe_int))
      (pss_cons (ps_set (i := 3) sclaw_pick.nd rfl (Or.inl rfl) (pe_op op_mod (pe_op op_add (pe_op op_add (pe_op op_mul (pv 3) (pv 3)) (pe_op op_mul (pe_op op_mul pe_int (pe_ix (ix_list_k K) (pv 0) pe_int (fun _ _ => rfl))) (pv 3))) pe_int) pe_int))
      (pss_cons (ps_set (i := 3) sclaw_pick.nd rfl (Or.inl rfl) (pe_op op_mod (pe_op op_add (pe_op op_add (pe_op op_pow (pv 3) pe_int) (pe_ix (ix_list_k K) (pv 0) pe_int (fun _ _ => rfl))) (pe_op op_mul pe_int (pe_ix (ix_list_k K) (pv 0) pe_int (fun _ _ => rfl)))) pe_int))
      (pss_one (ps_ret (pe_op op_mod (pe_op op_fdivW (pv 3) pe_int) (pv 1))))))))), ?_⟩
    refine ⟨_, rfl, a, _, _, .int d, rfl, rfl, Evl.sq_of ha, atI_nat (j := 0) rfl, _, _, rfl, rfl, _, rfl, ?_⟩
    by_cases z : d > 0
    · rw [decide_eq_true z]
      refine iteT ?_
      refine ⟨_, rfl, a, _, _, .int d, rfl, rfl, Evl.sq_of ha, atI_nat (j := 0) rfl, _, rfl, _, _, rfl, rfl, hn0, ?_⟩
      refine ⟨_, rfl, a, _, _, .int d, rfl, rfl, Evl.sq_of ha, atI_nat (j := 0) rfl, _, rfl, _, _, rfl, rfl, ⟨hn0, hlog⟩, ?_⟩
      refine ⟨_, rfl, a, _, _, 0, rfl, rfl, ha, rfl, ?_⟩
      refine ⟨_, rfl, q _ _ Eb.set ⟨_, _, _, upd_same⟩ (Int.emod_nonneg _ (by omega)) (Int.emod_lt_of_pos _ hn0)⟩
    · rw [decide_eq_false z]
      refine iteF ?_
      refine ⟨_, rfl, a, _, _, .int c, rfl, rfl, Evl.sq_of ha, atI_nat (j := 2) rfl, _, _, rfl, rfl, _, rfl, a, _, _, 2, rfl, rfl, ha, rfl, ?_⟩
      have ha2 : (upd H a (.lst ([V.int d, V.int m, V.int c].set 2 (V.int (c + 1))))) a = some (.lst [.int d, .int m, .int (c + 1)]) := upd_same
      have eA : Eb a H (upd H a (.lst ([V.int d, V.int m, V.int c].set 2 (V.int (c + 1))))) := Eb.set
      generalize upd H a (.lst ([V.int d, V.int m, V.int c].set 2 (V.int (c + 1)))) = H2 at ha2 eA ⊢
      have b61 : ∀ x : Int, 0 ≤ x % 2305843009213693951 ∧ x % 2305843009213693951 < 2305843009213693951 := fun x => ⟨Int.emod_nonneg _ (by omega), Int.emod_lt_of_pos _ (by omega)⟩
      refine ⟨_, rfl, a, _, _, .int m, rfl, rfl, Evl.sq_of ha2, atI_nat (j := 1) rfl, _, rfl, a, _, _, .int (c + 1), rfl, rfl, Evl.sq_of ha2, atI_nat (j := 2) rfl, _, _, rfl, rfl, .inl ⟨by omega, by omega⟩, _, _, rfl, rfl, _, _, rfl, rfl, by omega, ?_⟩
      obtain ⟨l1, u1⟩ := b61 (m + 160001 * (c + 1))
      generalize (m + 160001 * (c + 1)) % 2305843009213693951 = x1 at l1 u1 ⊢
      refine ⟨_, rfl, _, rfl, _, _, rfl, rfl, .inl ⟨by omega, by omega⟩, _, rfl, a, _, _, .int (c + 1), rfl, rfl, Evl.sq_of ha2, atI_nat (j := 2) rfl, _, _, rfl, rfl, .inl ⟨by omega, by omega⟩, _, rfl, _, _, rfl, rfl, .inr ⟨by omega, by omega⟩, _, _, rfl, rfl, _, _, rfl, rfl, _, _, rfl, rfl, by omega, ?_⟩
      obtain ⟨l2, u2⟩ := b61 (x1 * x1 + 62323 * (c + 1) * x1 + 53)
      generalize (x1 * x1 + 62323 * (c + 1) * x1 + 53) % 2305843009213693951 = x2 at l2 u2 ⊢
      refine ⟨_, rfl, _, _, rfl, rfl, ⟨by omega, by omega, by omega⟩, _, rfl, a, _, _, .int m, rfl, rfl, Evl.sq_of ha2, atI_nat (j := 1) rfl, _, _, rfl, rfl, _, rfl, a, _, _, .int (c + 1), rfl, rfl, Evl.sq_of ha2, atI_nat (j := 2) rfl, _, _, rfl, rfl, .inl ⟨by omega, by omega⟩, _, _, rfl, rfl, _, _, rfl, rfl, by omega, ?_⟩
      refine ⟨_, rfl, _, _, rfl, rfl, ⟨by omega, by decide⟩, _, rfl, _, _, rfl, rfl, hn0, ?_⟩
      exact q _ _ eA ⟨_, _, _, ha2⟩ (Int.emod_nonneg _ (by omega)) (Int.emod_lt_of_pos _ hn0)
end
end K21
/-! ## W15 -/
set_option Elab.async false
set_option linter.all false
set_option maxRecDepth 100000
set_option maxHeartbeats 4000000
/-! Shuffles, names, slots. -/
namespace K21
open PySem PySem.Spec PyProof.Rows L2
theorem yes_if {σ : L2.St} {H : Hp} {X Y : Hp → Prop} (h : X H) : tYes σ H (fun b H3 => if b = true then X H3 else Y H3) := by
  show if true = true then X H else Y H
  rw [if_pos rfl]; exact h
theorem small_le {n : Int} (h : n ≤ 1000) : n ≤ 10 ^ 12 := Int.le_trans h (by decide)
theorem ixN_nat {n j : Nat} (h : j < n) : ixN n (j : Int) = some j := by
  unfold ixN
  rw [if_pos (by omega), if_pos (by omega)]; simp
theorem perm_pop {acc left : List V} {k : Nat} {y : V} (h : left[k]? = some y) : ((acc ++ [y]) ++ left.eraseIdx k).Perm (acc ++ left) := by
  rw [List.append_assoc]
  refine List.Perm.append_left acc ?_
  obtain ⟨hk, e⟩ := List.getElem?_eq_some_iff.mp h
  rw [List.eraseIdx_eq_take_drop_succ]
  have h2 : left = left.take k ++ (y :: left.drop (k + 1)) := by
    rw [← e, ← List.drop_eq_getElem_cons hk, List.take_append_drop]
  have h3 : ([y] ++ (left.take k ++ left.drop (k + 1))).Perm (left.take k ++ (y :: left.drop (k + 1))) := (List.perm_middle (a := y) (l₁ := left.take k) (l₂ := left.drop (k + 1))).symm
  rw [← h2] at h3
  exact h3
section
variable {P : Program} {w : World} {K : PySem.W.Frag} {mg : Str → Option Value} {base : Heap} {C : Kd → Addr} {CB RC : Addr}
abbrev slaw_shuffle : Stmt := top 67
abbrev Nlaw_shuffle : List Str := ["_law_feed_here", "_law_values", "_law_left", "_law_k"]
theorem sclaw_shuffle : FnScope Nlaw_shuffle ["_law_feed_here", "_law_values"] (defScope slaw_shuffle) := ⟨rfl, rfl, rfl, by decide +kernel, rfl, by decide +kernel, by decide +kernel⟩
-- 0 _law_feed_here*, 1 _law_values, 2 _law_left*, 3 _law_k
theorem cal_shuffle (F : DF K mg "_law_shuffle" slaw_shuffle ["_law_feed_here", "_law_values"]) (T : Txt K mg C CB RC) (c__law_pick : C8.Cal P w K mg base 1 "_law_pick" spPick []) : C8.Cal P w K mg base 2 "_law_shuffle" spShuffle [] := by
  refine F.cal sclaw_shuffle (fun vs H Q E h => ?_) (fun f cdv A outer s H vs Q E hr h => ?_)
  · obtain ⟨a, b, xs, rfl, _⟩ := h
    rfl
  · obtain ⟨a, b, xs, rfl, hf, hab, hb, hl, q⟩ := h
    refine ⟨_, (pss_cons (ps_set (i := 2) sclaw_shuffle.nd rfl (Or.inr rfl) (pe_callTy (call_list_of_k K) (by rfl) T.list_ (by decide +kernel) (pa_cons (pv 1) pa_nil)))
      (pss_one (ps_ret (pe_lc (own := [("_law_k", 3)]) rfl sclaw_shuffle.nd (pi_range1 (by rfl) T.range_ (pa_cons (pe_callB (call_len_k K) (by rfl) T.len_ (by decide +kernel) (pa_cons (pv 1) pa_nil)) pa_nil)) (blkOk_by (N := Nlaw_shuffle) (sc := defScope slaw_shuffle) (own := [("_law_k", 3)]) (by decide +kernel)) (fun _ _ _ _ _ => (pg_name (i := 3) sclaw_shuffle.nd rfl (Or.inl rfl))) (fun _ _ _ _ _ => pts_nil) (fun _ _ _ _ _ => (pe_bm_k K PySem.F.plainAttrs_list PySem.F.slot_list_pop PySem.F.type_list_pop mt_popAt (pv 2) (pa_cons (C8.pe_c c__law_pick hr (by decide) (by rfl) (pa_cons (pv 0) (pa_cons (pe_callB (call_len_k K) (by rfl) T.len_ (by decide +kernel) (pa_cons (pv 2) pa_nil)) pa_nil))) pa_nil))))))), ?_⟩
    refine ⟨_, rfl, b, xs, rfl, .inl (Evl.sq_of hb), fun L hL => ?_⟩
    have eL : Ex H (upd H L (.lst xs)) := Evl.Ex.new hL
    have hL1 : (upd H L (.lst xs)) L = some (.lst xs) := upd_same
    have naL : a ≠ L := feed_some hf hL
    generalize upd H L (.lst xs) = H1 at eL hL1 ⊢
    refine ⟨_, rfl, b, xs, rfl, .inl (Evl.sq_of (eL _ _ hb)), xs.length, rfl, (by omega), (by omega), fun D hD => ?_⟩
    have hf1 := hf.ex eL
    have naD : a ≠ D := feed_some hf1 hD
    have nLD : L ≠ D := fun z => by rw [← z, hL1] at hD; cases hD
    refine lc_it (walk_range (n := xs.length)) (fun i H' => (∀ b o, b ≠ a → b ≠ L → b ≠ D → H1 b = some o → H' b = some o) ∧ FeedAt H' a ∧ ∃ acc left, H' D = some (.lst acc) ∧ H' L = some (.lst left) ∧ (acc ++ left).Perm xs ∧ acc.length = i)
      ⟨fun b o _ _ n h => by rw [upd_ne n]; exact h, hf1.ex (Evl.Ex.new hD), [], xs, upd_same, by rw [upd_ne nLD]; exact hL1, List.Perm.refl _, rfl⟩ (fun _ _ _ _ => trivial) (fun i x H2 H' hi P y => ?_) fun H2 P => ?_
    · obtain ⟨hk, hf2, acc, left, hD2, hL2, hperm, hacc⟩ := P
      obtain ⟨rfl, ey⟩ := y
      have hi : i < xs.length := hi
      have hlen := hperm.length_eq
      rw [List.length_append] at hlen
      refine ⟨rfl, yes_if ?_⟩
      refine ⟨_, rfl, .inl ⟨rfl, _, Evl.sq_of hL2⟩, ?_⟩
      refine ⟨_, rfl, _, rfl, L, left, rfl, .inl (Evl.sq_of hL2), a, _, rfl, hf2, (by omega), small_le (by omega), fun j H3 e3 hf3 hj0 hj1 => ?_⟩
      obtain ⟨m, rfl⟩ := Int.eq_ofNat_of_zero_le hj0
      have hm : m < left.length := by omega
      have hL3 : H3 L = some (.lst left) := e3 _ _ (fun z => naL z.symm) hL2
      have hD3 : H3 D = some (.lst acc) := e3 _ _ (fun z => naD z.symm) hD2
      refine ⟨L, left, _, m, left[m], rfl, rfl, hL3, (by omega), (by omega), (ixN_seq (ixN_nat hm)).1, List.getElem?_eq_getElem hm, ?_⟩
      refine ⟨acc, by rw [upd_ne (fun z => nLD z.symm)]; exact hD3, Nat.lt_of_le_of_lt (by omega : acc.length ≤ 60) (by decide), fun b o n1 n2 n3 h => ?_, ?_, acc ++ [left[m]], left.eraseIdx m, upd_same, ?_, (perm_pop (List.getElem?_eq_getElem hm)).trans hperm, by rw [List.length_append, hacc]; rfl⟩
      · rw [upd_ne n3, upd_ne n2]; exact e3 _ _ n1 (hk b o n1 n2 n3 h)
      · obtain ⟨d, mm, c, hh⟩ := hf3
        exact ⟨d, mm, c, by rw [upd_ne naD, upd_ne naL]; exact hh⟩
      · rw [upd_ne nLD, upd_same]
    · obtain ⟨hk, hf2, acc, left, hD2, hL2, hperm, hacc⟩ := P
      have hlen := hperm.length_eq
      rw [List.length_append, hacc] at hlen
      have : left = [] := List.length_eq_zero_iff.mp (by omega)
      subst this
      rw [List.append_nil] at hperm
      have hDH : H D = none := Evl.fresh_back eL hD
      refine q D H2 acc hDH (fun b o n h => ?_) hf2 hD2 hperm
      exact hk b o n (fun z => by rw [z, hL] at h; cases h) (fun z => by rw [z, hDH] at h; cases h) (eL _ _ h)
end
end K21
/-! ## W16 -/
set_option Elab.async false
set_option linter.all false
set_option maxRecDepth 100000
set_option maxHeartbeats 4000000
/-! Names, slots. -/
namespace K21
open PySem PySem.Spec PyProof.Rows L2
def mulS (z : Str) (n : Int) : Str := if n < 1 then Str.empty else if n = 1 then z else strRep z n
def w1 (i : Nat) : Int := if i < 26 then 1 else 8
def nm1 (i : Nat) : Str := mulS ⟨#[97 + i % 26]⟩ (w1 i)
def nm2 (i : Nat) : Str := mulS ⟨#[122 - i % 26]⟩ 0
def nameOf (i : Nat) : Str := nm1 i ++ nm2 i
instance (s : Str) : Decidable (okItem s) := by unfold okItem; infer_instance
theorem name_ok : ∀ i : Nat, i < 30 → okItem (nameOf i) := by decide +kernel
theorem name_nd : ((List.range 30).map nameOf).Nodup := by decide +kernel
theorem name_a1 : ∀ i : Nat, i < 30 → atI letters.cps.toList ((i : Int) % 26) = some (97 + i % 26) := by decide +kernel
theorem name_a2 : ∀ i : Nat, i < 30 → atI letters.cps.toList (25 - (i : Int) % 26) = some (122 - i % 26) := by decide +kernel
theorem name_b1 : ∀ i : Nat, i < 30 → atI [V.int 1, V.int 8, V.int 2] ((i : Int) / 26) = some (.int (w1 i)) := by decide +kernel
theorem name_b2 : ∀ i : Nat, i < 30 → atI [V.int 0, V.int 0, V.int 6] ((i : Int) / 26) = some (.int 0) := by decide +kernel
theorem name_len : ∀ i : Nat, i < 30 → (nm1 i).length + (nm2 i).length ≤ 8 := by decide +kernel
theorem w1_ok (i : Nat) : 0 ≤ w1 i ∧ w1 i ≤ 8 := by unfold w1; split <;> omega
def namesL (n : Nat) : List Str := (List.range n).map nameOf
theorem namesL_nd {n : Nat} (h : n ≤ 30) : (namesL n).Nodup := by
  have h1 : List.range n = (List.range 30).take n := by rw [List.take_range, Nat.min_eq_left h]
  unfold namesL
  rw [h1, List.map_take]
  exact List.Nodup.sublist (List.take_sublist _ _) name_nd
theorem namesL_ok {n : Nat} (h : n ≤ 30) : ∀ s ∈ namesL n, okItem s := fun s hs => by
  obtain ⟨i, hi, rfl⟩ := List.mem_map.mp hs
  exact name_ok i (by have := List.mem_range.mp hi; omega)
/-- a list of values that are texts -/
theorem perm_strs {ys : List V} {l : List Str} (h : ys.Perm (l.map V.str)) : ∃ m : List Str, ys = m.map V.str ∧ m.Perm l := by
  refine ⟨ys.map fun v => match v with | .str s => s | _ => "", ?_, ?_⟩
  · rw [List.map_map]
    have : ∀ y ∈ ys, y = (V.str ∘ fun v => match v with | .str s => s | _ => "") y := fun y hy => by
      obtain ⟨s, _, rfl⟩ := List.mem_map.mp (h.mem_iff.mp hy)
      rfl
    exact (List.map_id ys).symm.trans (List.map_congr_left this)
  · have := h.map fun v => match v with | .str s => s | _ => ("" : Str)
    rw [List.map_map] at this
    exact this.trans (by rw [show ((fun v => match v with | .str s => s | _ => ("" : Str)) ∘ V.str) = id from rfl, List.map_id])
theorem perm_ints {ys : List V} {l : List Int} (h : ys.Perm (l.map V.int)) : ∃ m : List Int, ys = m.map V.int ∧ m.Perm l := by
  refine ⟨ys.map fun v => match v with | .int s => s | _ => 0, ?_, ?_⟩
  · rw [List.map_map]
    have : ∀ y ∈ ys, y = (V.int ∘ fun v => match v with | .int s => s | _ => 0) y := fun y hy => by
      obtain ⟨s, _, rfl⟩ := List.mem_map.mp (h.mem_iff.mp hy)
      rfl
    exact (List.map_id ys).symm.trans (List.map_congr_left this)
  · have := h.map fun v => match v with | .int s => s | _ => (0 : Int)
    rw [List.map_map] at this
    exact this.trans (by rw [show ((fun v => match v with | .int s => s | _ => (0 : Int)) ∘ V.int) = id from rfl, List.map_id])
def spNames : Sp := fun vs H Q _ => ∃ (a : Addr) (n : Nat), vs = [.ref a, .int (n : Nat)] ∧ FeedAt H a ∧ n ≤ 30 ∧
  ∀ q H' (ns : List Str), H q = none → Eb a H H' → FeedAt H' a → H' q = some (.lst (ns.map V.str)) → ns.Perm (namesL n) → Q (.ref q) H'
def spSlots : Sp := fun vs H Q _ => ∃ (a : Addr) (k : Int) (n : Nat), vs = [.ref a, .int k, .int (n : Nat)] ∧ FeedAt H a ∧ n ≤ 30 ∧
  ∀ q H' (ss : List Int), H q = none → Eb a H H' → FeedAt H' a → H' q = some (.lst (ss.map V.int)) → ss.length = n → (∀ s ∈ ss, 0 ≤ s ∧ s ≤ 60) → Q (.ref q) H'
section
variable {P : Program} {w : World} {K : PySem.W.Frag} {mg : Str → Option Value} {base : Heap} {C : Kd → Addr} {CB RC : Addr}
abbrev slaw_names : Stmt := top 68
abbrev Nlaw_names : List Str := ["_law_feed_here", "_law_many", "_law_letters", "_law_found", "_law_at"]
theorem sclaw_names : FnScope Nlaw_names ["_law_feed_here", "_law_many"] (defScope slaw_names) := ⟨rfl, rfl, rfl, by decide +kernel, rfl, by decide +kernel, by decide +kernel⟩
-- 0 _law_feed_here, 1 _law_many, 2 _law_letters, 3 _law_found, 4 _law_at
theorem cal_names (F : DF K mg "_law_names" slaw_names ["_law_feed_here", "_law_many"]) (T : Txt K mg C CB RC) (c__law_shuffle : C8.Cal P w K mg base 2 "_law_shuffle" spShuffle []) : C8.Cal P w K mg base 3 "_law_names" spNames [] := by
  refine F.cal sclaw_names (fun vs H Q E h => ?_) (fun f cdv A outer s H vs Q E hr h => ?_)
  · obtain ⟨a, n, rfl, _⟩ := h
    rfl
  · obtain ⟨a, n, rfl, hf, hn, q⟩ := h
    refine ⟨_, (pss_cons (ps_set (i := 2) sclaw_names.nd rfl (Or.inl rfl) pe_str)
      (pss_cons (ps_set (i := 3) sclaw_names.nd rfl (Or.inl rfl) (pe_lst pa_nil))
      (pss_cons (ps_for PassesOwn.never rfl (pi_range1 (by rfl) T.range_ (pa_cons (pv 1) pa_nil)) (pg_name (i := 4) sclaw_names.nd rfl (Or.inl rfl)) (pss_one (ps_expr (pe_bm_k K PySem.F.plainAttrs_list PySem.F.slot_list_append PySem.F.type_list_append mt_append (pv 3) (pa_cons (pe_op op_add_str (pe_op op_mul_str (pe_ix ix_str (pv 2) (pe_op op_mod (pv 4) pe_int) (fun _ _ => rfl)) (pe_ix (ix_list_k K) (pe_lst (pa_cons pe_int (pa_cons pe_int (pa_cons pe_int pa_nil)))) (pe_op op_fdivW (pv 4) pe_int) (fun _ _ => rfl))) (pe_op op_mul_str (pe_ix ix_str (pv 2) (pe_op op_sub pe_int (pe_op op_mod (pv 4) pe_int)) (fun _ _ => rfl)) (pe_ix (ix_list_k K) (pe_lst (pa_cons pe_int (pa_cons pe_int (pa_cons pe_int pa_nil)))) (pe_op op_fdivW (pv 4) pe_int) (fun _ _ => rfl)))) pa_nil)))))
      (pss_one (ps_ret (C8.pe_c c__law_shuffle hr (by decide) (by rfl) (pa_cons (pv 0) (pa_cons (pv 3) pa_nil)))))))), ?_⟩
    refine ⟨Nat.zero_le _, fun D hD => ?_⟩
    have e1 : Ex H (upd H D (.lst [])) := Evl.Ex.new hD
    refine ⟨_, rfl, n, rfl, (by omega), (by omega), ?_⟩
    refine for_it (walk_range (n := n)) (fun i σ H1 => ∃ y4, σ = [some (.ref a), some (.int (n : Nat)), some (.str letters), some (.ref D), y4] ∧ Ex H H1 ∧ H1 D = some (.lst ((namesL i).map V.str)))
      ⟨none, rfl, e1, upd_same⟩ (fun _ _ _ _ _ => trivial) (fun i x σ H1 H' hi P y => ?_) fun σ H1 P => ?_
    · obtain ⟨y4, rfl, e2, h2⟩ := P
      obtain ⟨rfl, ey⟩ := y
      have ey : x = .int (i : Nat) := by rw [ey]; show V.int (0 + _) = _; rw [Int.zero_add]
      subst ey
      have hi' : i < n := hi
      have hi : i < 30 := by omega
      have hlog : (26 : Int).natAbs.log2 < 9000 := by decide
      have hw := w1_ok i
      refine ⟨_, rfl, .inl ⟨rfl, _, Evl.sq_of h2⟩, ?_⟩
      refine ⟨_, rfl, _, rfl, _, _, rfl, rfl, by omega, _, _, _, rfl, rfl, by decide, name_a1 i hi, ?_⟩
      refine ⟨by show 3 ≤ sizeLine; decide, fun l1 hl1 => ?_⟩
      have e3 : Ex H' (upd H' l1 (.lst [V.int 1, V.int 8, V.int 2])) := Evl.Ex.new hl1
      have g3 : upd H' l1 (.lst [V.int 1, V.int 8, V.int 2]) l1 = some (.lst [V.int 1, V.int 8, V.int 2]) := upd_same
      generalize upd H' l1 (.lst [V.int 1, V.int 8, V.int 2]) = H3 at e3 g3 ⊢
      refine ⟨_, rfl, _, _, rfl, rfl, ⟨by omega, hlog⟩, l1, _, _, _, rfl, rfl, Evl.sq_of g3, name_b1 i hi, _, _, rfl, rfl, hw.1, hw.2, rfl, ?_⟩
      refine ⟨_, rfl, _, rfl, _, _, rfl, rfl, by omega, _, _, rfl, rfl, _, _, _, rfl, rfl, by decide, name_a2 i hi, ?_⟩
      refine ⟨by show 3 ≤ sizeLine; decide, fun l2 hl2 => ?_⟩
      have e4 : Ex H3 (upd H3 l2 (.lst [V.int 0, V.int 0, V.int 6])) := Evl.Ex.new hl2
      have g4 : upd H3 l2 (.lst [V.int 0, V.int 0, V.int 6]) l2 = some (.lst [V.int 0, V.int 0, V.int 6]) := upd_same
      generalize upd H3 l2 (.lst [V.int 0, V.int 0, V.int 6]) = H4 at e4 g4 ⊢
      refine ⟨_, rfl, _, _, rfl, rfl, ⟨by omega, hlog⟩, l2, _, _, _, rfl, rfl, Evl.sq_of g4, name_b2 i hi, _, _, rfl, rfl, by omega, by omega, rfl, ?_⟩
      refine ⟨nm1 i, nm2 i, rfl, rfl, Nat.le_trans (name_len i hi) (by decide), ?_⟩
      have h5 := (e3.trans e4) _ _ h2
      refine ⟨D, _, _, rfl, rfl, h5, ?_, _, rfl, Evl.Ex.mut (e2.trans (e3.trans e4)) hD, ?_⟩
      · unfold namesL
        rw [List.length_map, List.length_map, List.length_range]
        exact Nat.lt_of_lt_of_le hi (by decide)
      · rw [upd_same]
        unfold namesL
        rw [List.range_succ, List.map_append, List.map_append]; rfl
    · obtain ⟨y4, rfl, e2, h2⟩ := P
      refine ⟨_, rfl, _, rfl, a, D, _, rfl, hf.ex e2, (feed_some hf hD).symm, h2, ?_, fun q1 H3 ys hq1 e3 hf3 h3 hp => ?_⟩
      · unfold namesL; simp; omega
      · obtain ⟨m, rfl, hm⟩ := perm_strs hp
        exact q q1 H3 m (Evl.fresh_back e2 hq1) ((Eb.ofEx e2).trans e3) hf3 h3 hm
end
end K21
/-! ## W17 -/
set_option Elab.async false
set_option linter.all false
set_option maxRecDepth 100000
set_option maxHeartbeats 4000000
/-! Slots. -/
namespace K21
open PySem PySem.Spec PyProof.Rows L2
theorem Eb.mut {a D : Addr} {H H1 : Hp} {o : HO} (e : Eb a H H1) (hD : H D = none) : Eb a H (upd H1 D o) := fun b x n q => by
  rw [upd_ne (ne_of_none q hD)]; exact e b x n q
theorem feed_mut {a D : Addr} {H : Hp} {o : HO} (f : FeedAt H a) (n : a ≠ D) : FeedAt (upd H D o) a := by
  obtain ⟨d, m, c, h⟩ := f
  exact ⟨d, m, c, by rw [upd_ne n]; exact h⟩
theorem ite_join {A B : Prop} {b : Bool} (J : L2.St → Hp → Prop) {R : L2.St → Hp → Prop} (hA : b = true → (∀ σ H, J σ H → R σ H) → A) (hB : b = false → (∀ σ H, J σ H → R σ H) → B) (key : ∀ σ H, J σ H → R σ H) : if b = true then A else B := by
  cases b with
  | true => rw [if_pos rfl]; exact hA rfl key
  | false => rw [if_neg Bool.false_ne_true]; exact hB rfl key
theorem four_at (x0 x1 x2 x3 : V) {j : Int} (h0 : 0 ≤ j) (h1 : j < 4) : atI [x0, x1, x2, x3] j = some (if j = 0 then x0 else if j = 1 then x1 else if j = 2 then x2 else x3) := by
  have : j = 0 ∨ j = 1 ∨ j = 2 ∨ j = 3 := by omega
  rcases this with rfl | rfl | rfl | rfl
  · exact atI_nat (j := 0) rfl
  · exact atI_nat (j := 1) rfl
  · exact atI_nat (j := 2) rfl
  · exact atI_nat (j := 3) rfl
theorem three_at (x0 x1 x2 : V) {j : Int} (h0 : 0 ≤ j) (h1 : j < 3) : atI [x0, x1, x2] j = some (if j = 0 then x0 else if j = 1 then x1 else x2) := by
  have : j = 0 ∨ j = 1 ∨ j = 2 := by omega
  rcases this with rfl | rfl | rfl
  · exact atI_nat (j := 0) rfl
  · exact atI_nat (j := 1) rfl
  · exact atI_nat (j := 2) rfl
section
variable {P : Program} {w : World} {K : PySem.W.Frag} {mg : Str → Option Value} {base : Heap} {C : Kd → Addr} {CB RC : Addr}
abbrev slaw_slots : Stmt := top 69
abbrev Nlaw_slots : List Str := ["_law_feed_here", "_law_kind", "_law_many", "_law_found", "_law_way", "_law_at", "_law_slot"]
theorem sclaw_slots : FnScope Nlaw_slots ["_law_feed_here", "_law_kind", "_law_many"] (defScope slaw_slots) := ⟨rfl, rfl, rfl, by decide +kernel, rfl, by decide +kernel, by decide +kernel⟩
-- 0 _law_feed_here, 1 _law_kind, 2 _law_many*, 3 _law_found, 4 _law_way, 5 _law_at, 6 _law_slot
theorem cal_slots (F : DF K mg "_law_slots" slaw_slots ["_law_feed_here", "_law_kind", "_law_many"]) (T : Txt K mg C CB RC) (c__law_pick : C8.Cal P w K mg base 1 "_law_pick" spPick []) (c__law_shuffle : C8.Cal P w K mg base 2 "_law_shuffle" spShuffle []) : C8.Cal P w K mg base 3 "_law_slots" spSlots [] := by
  refine F.cal sclaw_slots (fun vs H Q E h => ?_) (fun f cdv A outer s H vs Q E hr h => ?_)
  · obtain ⟨a, k, n, rfl, _⟩ := h
    rfl
  · obtain ⟨a, k, n, rfl, hf, hn, q⟩ := h
    refine ⟨_, (pss_cons (ps_par (i := 3) (j := 4) (by rfl) sclaw_slots.nd rfl rfl (by decide) rfl rfl (pa_cons (pe_lst pa_nil) (pa_cons (C8.pe_c c__law_pick hr (by decide) (by rfl) (pa_cons (pv 0) (pa_cons pe_int pa_nil))) pa_nil)) (by rfl))
      (pss_cons (ps_for PassesOwn.never rfl (pi_range1 (by rfl) T.range_ (pa_cons (pv 2) pa_nil)) (pg_name (i := 5) sclaw_slots.nd rfl (Or.inl rfl)) (pss_one (ps_expr (pe_bm_k K PySem.F.plainAttrs_list PySem.F.slot_list_append PySem.F.type_list_append mt_append (pv 3) (pa_cons (pe_ix (ix_list_k K) (pe_lst (pa_cons (C8.pe_c c__law_pick hr (by decide) (by rfl) (pa_cons (pv 0) (pa_cons (pe_op op_add (pv 5) pe_int) pa_nil))) (pa_cons pe_int (pa_cons (pv 5) (pa_cons (pe_callB (call_max2 rfl) (by rfl) T.max_ (by decide +kernel) (pa_cons pe_int (pa_cons (pe_op op_sub (pv 5) (C8.pe_c c__law_pick hr (by decide) (by rfl) (pa_cons (pv 0) (pa_cons pe_int pa_nil)))) pa_nil))) pa_nil))))) (pv 4) (fun _ _ => rfl)) pa_nil)))))
      (pss_cons (ps_if (pt_cmpR op_eq (pv 1) pe_int (nomark _)) (pss_one (ps_setLc (i := 3) (own := [("_law_slot", 6)]) rfl sclaw_slots.nd rfl rfl (sw_true rfl rfl rfl (by decide +kernel)) (pi_list_k K (pv 3)) (blkOk_by (N := Nlaw_slots) (sc := defScope slaw_slots) (own := [("_law_slot", 6)]) (by decide +kernel)) (fun _ _ _ _ _ => (pg_name (i := 6) sclaw_slots.nd rfl (Or.inl rfl))) (fun _ _ _ _ _ => pts_nil) (fun _ _ _ _ _ => (pe_op op_sub (pe_op op_sub (pv 2) pe_int) (pv 6))))) pss_nil)
      (pss_cons (ps_set (i := 3) sclaw_slots.nd rfl (Or.inl rfl) (C8.pe_c c__law_shuffle hr (by decide) (by rfl) (pa_cons (pv 0) (pa_cons (pv 3) pa_nil))))
      (pss_cons (ps_if (PW.pt (pw_and (pt_cmpR op_gt (pv 2) pe_int (nomark _)) (pw_and1 (pt_cmpR op_eq (C8.pe_c c__law_pick hr (by decide) (by rfl) (pa_cons (pv 0) (pa_cons pe_int pa_nil))) pe_int (nomark _))))) (pss_one (ps_asg (pe_ix (ix_list_k K) (pe_lst (pa_cons (C8.pe_c c__law_pick hr (by decide) (by rfl) (pa_cons (pv 0) (pa_cons pe_int pa_nil))) (pa_cons (C8.pe_c c__law_pick hr (by decide) (by rfl) (pa_cons (pv 0) (pa_cons (pv 2) pa_nil))) (pa_cons (pv 2) pa_nil)))) (C8.pe_c c__law_pick hr (by decide) (by rfl) (pa_cons (pv 0) (pa_cons pe_int pa_nil))) (fun _ _ => rfl)) (pg_sub (pv 3) (C8.pe_c c__law_pick hr (by decide) (by rfl) (pa_cons (pv 0) (pa_cons (pv 2) pa_nil))) set_list))) pss_nil)
      (pss_one (ps_ret (pv 3)))))))), ?_⟩
    refine ⟨Nat.zero_le _, fun D hD => ?_⟩
    have e1 : Ex H (upd H D (.lst [])) := Evl.Ex.new hD
    have naD : a ≠ D := feed_some hf hD
    have g1 : upd H D (.lst []) D = some (.lst []) := upd_same
    generalize upd H D (.lst []) = H1 at e1 g1 ⊢
    have hf1 := hf.ex e1
    refine ⟨_, rfl, a, 4, rfl, hf1, by omega, small_le (by omega), fun way H2 e2 hf2 hw0 hw1 => ⟨_, _, rfl, ?_⟩⟩
    have eb2 := (Eb.ofEx e1).trans e2
    have g2 := e2 _ _ naD.symm g1
    refine ⟨_, rfl, n, rfl, (by omega), (by omega), ?_⟩
    refine for_it (walk_range (n := n)) (fun i σ H3 => ∃ y5 y6 ss, σ = [some (.ref a), some (.int k), some (.int (n : Nat)), some (.ref D), some (.int way), y5, y6] ∧ Eb a H H3 ∧ FeedAt H3 a ∧ H3 D = some (.lst ((ss : List Int).map V.int)) ∧ ss.length = i ∧ ∀ s ∈ ss, 0 ≤ s ∧ s < n)
      ⟨none, none, [], rfl, eb2, hf2, g2, rfl, fun s h => by cases h⟩ (fun _ _ _ _ _ => trivial) (fun i x σ H3 H' hi P y => ?_) fun σ H3 P => ?_
    · obtain ⟨y5, y6, ss, rfl, e3, hf3, h3, hsl, hss⟩ := P
      obtain ⟨rfl, ey⟩ := y
      have ey : x = .int (i : Nat) := by rw [ey]; show V.int (0 + _) = _; rw [Int.zero_add]
      subst ey
      have hi : i < n := hi
      refine ⟨_, rfl, .inl ⟨rfl, _, Evl.sq_of h3⟩, ?_⟩
      refine ⟨_, rfl, _, rfl, _, _, rfl, rfl, a, _, rfl, hf3, (by omega), small_le (by omega), fun p1 H4 e4 hf4 hp0 hp1 => ?_⟩
      refine ⟨_, rfl, _, rfl, _, rfl, a, 3, rfl, hf4, (by omega), small_le (by omega), fun p2 H5 e5 hf5 hq0 hq1 => ?_⟩
      refine ⟨_, _, rfl, rfl, _, _, rfl, (by show 4 ≤ sizeLine; decide), fun l1 hl1 => ?_⟩
      have n1 : a ≠ l1 := feed_some hf5 hl1
      have e6 : Ex H5 (upd H5 l1 (.lst [.int p1, .int 0, .int (i : Nat), .int (if (i : Int) - p2 > 0 then (i : Int) - p2 else 0)])) := Evl.Ex.new hl1
      have g6 : upd H5 l1 (.lst [.int p1, .int 0, .int (i : Nat), .int (if (i : Int) - p2 > 0 then (i : Int) - p2 else 0)]) l1 = _ := upd_same
      generalize upd H5 l1 (.lst [.int p1, .int 0, .int (i : Nat), .int (if (i : Int) - p2 > 0 then (i : Int) - p2 else 0)]) = H6 at e6 g6 ⊢
      refine ⟨_, rfl, l1, _, _, _, rfl, rfl, Evl.sq_of g6, four_at _ _ _ _ hw0 hw1, ?_⟩
      have e36 := (e4.trans e5).trans (Eb.ofEx e6)
      have h6 := e36 _ _ naD.symm h3
      obtain ⟨s, hs, hs0, hs1⟩ : ∃ s : Int, (if way = 0 then V.int p1 else if way = 1 then V.int 0 else if way = 2 then V.int (i : Nat) else V.int (if (i : Int) - p2 > 0 then (i : Int) - p2 else 0)) = .int s ∧ 0 ≤ s ∧ s < n := by
        split
        · exact ⟨_, rfl, by omega, by omega⟩
        · split
          · exact ⟨_, rfl, by omega, by omega⟩
          · split
            · exact ⟨_, rfl, by omega, by omega⟩
            · refine ⟨_, rfl, ?_, ?_⟩ <;> split <;> omega
      refine ⟨D, _, _, rfl, rfl, h6, ?_, ?_⟩
      · rw [List.length_map, hsl]
        exact Nat.lt_of_lt_of_le hi (Nat.le_trans hn (by decide))
      · rw [hs]
        refine ⟨_, _, ss ++ [s], rfl, (e3.trans e36).mut hD, feed_mut (hf5.ex e6) naD, ?_, by simp [hsl], fun z hz => ?_⟩
        · rw [upd_same, List.map_append]; rfl
        · rcases List.mem_append.mp hz with hz | hz
          · exact hss z hz
          · have : z = s := by simpa using hz
            rw [this]; exact ⟨hs0, hs1⟩
    · obtain ⟨y5, y6, ss, rfl, e3, hf3, h3, hsl, hss⟩ := P
      refine ⟨_, rfl, rfl, decide (V.int k = V.int 2), rfl, ?_⟩
      apply ite_join (fun σ H4 => ∃ (y5 y6 : Option V) (ss : List Int) (F : Addr), σ = [some (.ref a), some (.int k), some (.int (n : Nat)), some (.ref F), some (.int way), y5, y6] ∧ Eb a H H4 ∧ FeedAt H4 a ∧ H4 F = some (.lst ((ss : List Int).map V.int)) ∧ H F = none ∧ ss.length = n ∧ ∀ s ∈ ss, 0 ≤ s ∧ s < n)
      rotate_left 1
      · intro _ key
        exact key _ _ ⟨y5, y6, ss, D, rfl, e3, hf3, h3, hD, hsl, hss⟩
      · rintro σ H4 ⟨y5, y6, ss, F, rfl, e4, hf4, h4, hF, hsl, hss⟩
        have naF : a ≠ F := feed_some hf hF
        refine ⟨_, rfl, _, rfl, a, F, _, rfl, hf4, naF.symm, h4, by rw [List.length_map, hsl]; omega, fun S H5 ys hS e5 hf5 h5 hp => ?_⟩
        obtain ⟨ms, rfl, hms⟩ := perm_ints hp
        have e45 := e4.trans e5
        have hSH := eb_back hf4 e4 hS hf
        have naS : a ≠ S := feed_some hf hSH
        have hml : ms.length = n := by rw [hms.length_eq, hsl]
        have hmm : ∀ s ∈ ms, 0 ≤ s ∧ s ≤ 60 := fun s hs => by have := hss s (hms.mem_iff.mp hs); omega
        have done : ∀ H6, Eb a H H6 → FeedAt H6 a → ∀ ls : List Int, H6 S = some (.lst (ls.map V.int)) → ls.length = n → (∀ s ∈ ls, 0 ≤ s ∧ s ≤ 60) → Q (.ref S) H6 := fun H6 e6 hf6 ls h6 hl hs => q S H6 ls hSH e6 hf6 h6 hl hs
        refine ⟨_, rfl, _, _, rfl, rfl, decide ((n : Int) > 0), rfl, ?_⟩
        by_cases z : (n : Int) > 0
        · rw [decide_eq_true z]
          refine iteT ?_
          refine ⟨_, rfl, a, 5, rfl, hf5, by omega, small_le (by omega), fun p5 H6 e6 hf6 _ _ => ⟨rfl, decide (V.int p5 = V.int 0), rfl, ?_⟩⟩
          have g6 := e6 _ _ naS.symm h5
          cases decide (V.int p5 = V.int 0) with
          | false => exact iteF ⟨_, rfl, done H6 (e45.trans e6) hf6 ms g6 hml hmm⟩
          | true =>
            refine iteT ?_
            refine ⟨_, rfl, a, 61, rfl, hf6, by omega, small_le (by omega), fun p1 H7 e7 hf7 u0 u1 => ?_⟩
            refine ⟨_, rfl, _, rfl, a, n, rfl, hf7, by omega, small_le (by omega), fun p2 H8 e8 hf8 v0 v1 => ?_⟩
            refine ⟨_, rfl, (by show 3 ≤ sizeLine; decide), fun l1 hl1 => ?_⟩
            have e9 : Ex H8 (upd H8 l1 (.lst [.int p1, .int p2, .int (n : Nat)])) := Evl.Ex.new hl1
            have g9 : upd H8 l1 (.lst [.int p1, .int p2, .int (n : Nat)]) l1 = _ := upd_same
            have n1 : a ≠ l1 := feed_some hf8 hl1
            generalize upd H8 l1 (.lst [.int p1, .int p2, .int (n : Nat)]) = H9 at e9 g9 ⊢
            have hf9 := hf8.ex e9
            refine ⟨_, rfl, a, 3, rfl, hf9, by omega, small_le (by omega), fun j H10 e10 hf10 w0 w1 => ?_⟩
            have g10 := e10 _ _ n1.symm g9
            refine ⟨l1, _, _, _, rfl, rfl, Evl.sq_of g10, three_at _ _ _ w0 w1, ?_⟩
            obtain ⟨s, hs, hs0, hs1⟩ : ∃ s : Int, (if j = 0 then V.int p1 else if j = 1 then V.int p2 else V.int (n : Nat)) = .int s ∧ 0 ≤ s ∧ s ≤ 60 := by
              split
              · exact ⟨_, rfl, by omega, by omega⟩
              · split
                · exact ⟨_, rfl, by omega, by omega⟩
                · exact ⟨_, rfl, by omega, by omega⟩
            rw [hs]
            refine ⟨_, rfl, _, rfl, _, rfl, a, n, rfl, hf10, by omega, small_le (by omega), fun t H11 e11 hf11 t0 t1 => ?_⟩
            obtain ⟨m, rfl⟩ := Int.eq_ofNat_of_zero_le t0
            have e611 := (((e7.trans e8).trans (Eb.ofEx e9)).trans e10).trans e11
            have g11 := e611 _ _ naS.symm g6
            refine ⟨S, _, _, m, rfl, rfl, g11, ixN_nat (by rw [List.length_map, hml]; omega), ?_⟩
            refine ⟨_, rfl, done _ ((e45.trans (e6.trans e611)).mut hSH) (feed_mut hf11 naS) (ms.set m s) ?_ (by rw [List.length_set]; exact hml) fun z hz => ?_⟩
            · rw [upd_same, List.map_set]
            · rcases List.mem_or_eq_of_mem_set hz with hz | hz
              · exact hmm z hz
              · rw [hz]; exact ⟨hs0, hs1⟩
        · rw [decide_eq_false z]
          exact iteF (iteF ⟨_, rfl, done H5 e45 hf5 ms h5 hml hmm⟩)
      · intro _ key
        refine ⟨_, rfl, D, rfl, ⟨_, Evl.sq_of h3⟩, fun L hL => lcP (walk_list (xs := ss.map V.int)) (fun i => (ss[i]?).map fun s => V.int ((n : Int) - 1 - s)) hL (by rw [List.length_map, hsl]; omega) (fun H e => Evl.sq_of (e _ _ h3)) (fun i x H5 H' Qy Qn hi e y k1 k2 => ?_) fun H5 e5 h5 => ?_⟩
        · obtain ⟨rfl, hx⟩ := y
          rw [List.getElem?_map] at hx
          obtain ⟨s, hs, rfl⟩ := Option.map_eq_some_iff.mp hx
          refine ⟨rfl, yes_if ?_⟩
          refine ⟨_, rfl, _, _, rfl, rfl, _, rfl, _, _, rfl, rfl, k1 _ _ (Evl.Ex.refl _) ?_⟩
          rw [hs]; rfl
        · have eS : (List.range (ss.map V.int).length).filterMap (fun i => (ss[i]?).map fun s => V.int ((n : Int) - 1 - s)) = (ss.map fun s => (n : Int) - 1 - s).map V.int := by
            rw [List.length_map, List.map_map]
            exact range_get ss _ _ fun i x hx => by rw [hx]; rfl
          rw [eS] at h5
          refine key _ _ ⟨y5, y6, ss.map fun s => (n : Int) - 1 - s, L, rfl, e3.trans (Eb.ofEx e5), hf3.ex e5, h5, eb_back hf3 e3 hL hf, by simp [hsl], fun z hz => ?_⟩
          obtain ⟨s, hs, rfl⟩ := List.mem_map.mp hz
          have := hss s hs
          omega
end
end K21
/-! ## G1 -/
set_option Elab.async false
set_option linter.all false
set_option maxRecDepth 100000
set_option maxHeartbeats 4000000
/-! list(zip(a, b)). -/
namespace K21
open PySem PySem.Spec PyProof.Rows L2
theorem zip_no_len : typeLookup (.type "zip") "__len__" = pure none := am_miss_of_fast (by decide +kernel)
theorem zip_no_hint : typeLookup (.type "zip") "__length_hint__" = pure none := am_miss_of_fast (by decide +kernel)
/-- where the zip stands behind i pairs -/
def ZipSt (h : Heap) (S z TI TO i1 i2 l1 l2 : Addr) (i : Nat) : Prop :=
  ((IsZip h z TI TO .none ∧ i = 0) ∨ ∃ (T : Addr) (f : Bool) (oT : Obj), IsZipHeld h z TI TO T f ∧ h.get? T = some oT ∧ T ∉ [z, TI, TO, i1, i2] ∧ T ≠ S) ∧ IsPair h TI (.ref i1) (.ref i2) ∧ (∃ x y, IsPair h TO x y) ∧ h.IsListIter i1 l1 i ∧ h.IsListIter i2 l2 i
/-- the pairs of two lists -/
structure ZipsIn (H0 H : Hp) (ts xs ys : List V) : Prop where
  len : ts.length = min xs.length ys.length
  at_ : ∀ (i : Nat) v, ts[i]? = some v → ∃ t x y, v = .ref t ∧ xs[i]? = some x ∧ ys[i]? = some y ∧ H0 t = none ∧ H t = some (.tup [x, y])
section
variable {X : Cx} {pins : List (Addr × Obj)} {σ : L2.St} {A : Around} {R : Result → Shared → Prop} {S z TI TO i1 i2 l1 l2 : Addr} {xs ys : List V} {H0 : Hp}
theorem zip_drain (hh : A.handled = none) (D : ZipApart z TI TO i1 i2 l1 l2)
    (hend : ∀ s' G ts, Inv X pins σ G s' → G S = some (.lst ts) → (∀ b o, H0 b = some o → G b = some o) → ts.length = min xs.length ys.length → (∀ (i : Nat) v, ts[i]? = some v → ∃ t x y, v = .ref t ∧ xs[i]? = some x ∧ ys[i]? = some y ∧ H0 t = none ∧ t ≠ S ∧ G t = some (.tup [x, y])) → R (.ok (.ret .none)) s')
    (hS0 : H0 S = none) (hl : xs.length ≤ 1000) (q1 : SqL X.K H0 l1 xs) (q2 : SqL X.K H0 l2 ys) :
    ∀ (m i : Nat) (s : Shared) (G : Hp) (ts : List V), min xs.length ys.length - i = m → i ≤ min xs.length ys.length → Inv X pins σ G s → ZipSt s.heap S z TI TO i1 i2 l1 l2 i → (∀ c ∈ [z, TI, TO, i1, i2], FpOk X pins G c) → G S = some (.lst ts) → (∀ b o, H0 b = some o → G b = some o) → ts.length = i →
      (∀ (i : Nat) v, ts[i]? = some v → ∃ t x y, v = .ref t ∧ xs[i]? = some x ∧ ys[i]? = some y ∧ H0 t = none ∧ t ≠ S ∧ G t = some (.tup [x, y])) →
      codeAny (model X.prog X.w) A (.builtin "list.extend.loop" ⟨[.ref S, .ref z, .none], []⟩) R s := by
  intro m
  induction m with
  | zero =>
    intro i s G ts hm hi I hst hf hS hk htl hts
    have hin : i = min xs.length ys.length := by omega
    obtain ⟨hz, hTI, ⟨x0, y0, hTO⟩, h1, h2⟩ := hst
    obtain ⟨its, rv, p1, _⟩ := I.list (Evl.ex_l hk q1)
    obtain ⟨its2, rv2, p2, _⟩ := I.list (Evl.ex_l hk q2)
    have e1 := rv.length
    have e2 := rv2.length
    have he : its.toArray[i]? = none ∨ its2.toArray[i]? = none := by
      by_cases c : xs.length ≤ ys.length
      · exact .inl (by simp; omega)
      · exact .inr (by simp; omega)
    refine codeAny_builtin F.entry_extend_loop ?_
    rw [Around.under_plainId F.plain_extend_loop _]
    show wpAny _ A.in1 (pyNext (.ref z) >>= _) _ _ s
    rcases hz with ⟨hz, _⟩ | ⟨T, f, oT, hz, hT, hTn, hTS⟩
    · refine wpAny_bind (wpAny_pyNext_zip_end (A := A.in1) hh D hz hTI hTO h1 h2 p1.isList p2.isList he fun h' hk' => wpAny_pure ?_)
      exact hend _ G ts (I.turnedL (t' := s.toks) (ch := [z, TI, TO, i1, i2]) (fun c o hb q => hk' c o (fun q' => hb (by simp [q'])) (fun q' => hb (by simp [q'])) (fun q' => hb (by simp [q'])) (fun q' => hb (by simp [q'])) q) hf) hS hk (by omega) hts
    · refine wpAny_bind (wpAny_pyNext_zip_end_held (A := A.in1) hh D hz hT hTI h1 h2 p1.isList p2.isList he fun h' hk' => wpAny_pure ?_)
      exact hend _ G ts (I.turnedL (t' := s.toks) (ch := [z, TI, TO, i1, i2]) (fun c o hb q => hk' c o (fun q' => hb (by simp [q'])) (fun q' => hb (by simp [q'])) (fun q' => hb (by simp [q'])) q) hf) hS hk (by omega) hts
  | succ m ih =>
    intro i s G ts hm hi I hst hf hS hk htl hts
    have hlt : i < min xs.length ys.length := by omega
    have hx : xs[i]? = some xs[i] := List.getElem?_eq_getElem (by omega)
    have hy : ys[i]? = some ys[i] := List.getElem?_eq_getElem (by omega)
    generalize xs[i] = x at hx
    generalize ys[i] = y at hy
    obtain ⟨hz, hTI, ⟨x0, y0, hTO⟩, h1, h2⟩ := hst
    obtain ⟨its, rv, p1, _⟩ := I.list (Evl.ex_l hk q1)
    obtain ⟨its2, rv2, p2, _⟩ := I.list (Evl.ex_l hk q2)
    obtain ⟨u, hu, ru⟩ := rv.get hx
    obtain ⟨u2, hu2, ru2⟩ := rv2.get hy
    obtain ⟨zl, itS, n, rS, lS, eS⟩ := I.lstM hS
    refine codeAny_builtin F.entry_extend_loop ?_
    rw [Around.under_plainId F.plain_extend_loop _]
    show wpAny _ A.in1 (pyNext (.ref z) >>= _) _ _ s
    have hTn : s.heap.objs.size ∉ [z, TI, TO, i1, i2] := fun hc => by
      obtain ⟨o1, e1, _⟩ := h1
      obtain ⟨o2, e2, _⟩ := h2
      have zlt : z < s.heap.objs.size := by
        rcases hz with ⟨hz, _⟩ | ⟨_, _, _, hz, _⟩ <;> exact Heap.lt_size hz
      have e' : s.heap.objs.size = z ∨ s.heap.objs.size = TI ∨ s.heap.objs.size = TO ∨ s.heap.objs.size = i1 ∨ s.heap.objs.size = i2 := by simpa using hc
      rcases e' with q | q | q | q | q
      · rw [← q] at zlt; exact Nat.lt_irrefl _ zlt
      · have := Heap.lt_size hTI; rw [← q] at this; exact Nat.lt_irrefl _ this
      · have := Heap.lt_size hTO; rw [← q] at this; exact Nat.lt_irrefl _ this
      · have := Heap.lt_size e1; rw [← q] at this; exact Nat.lt_irrefl _ this
      · have := Heap.lt_size e2; rw [← q] at this; exact Nat.lt_irrefl _ this
    have hGs : G s.heap.objs.size = none := I.hok.fresh (Nat.le_refl _)
    have hsS : s.heap.objs.size ≠ S := fun q => by rw [q, hS] at hGs; cases hGs
    -- behind the next pair
    have go : ∀ (h' : Heap) (T' : Addr) (f : Bool) (oT' : Obj), IsZipHeld h' z TI TO T' f → h'.get? T' = some oT' → T' ∉ [z, TI, TO, i1, i2] → T' ≠ S → (∃ a b, IsPair h' TO a b) → IsPair h' TI (.ref i1) (.ref i2) → h'.IsListIter i1 l1 (i + 1) → h'.IsListIter i2 l2 (i + 1) → IsPair h' s.heap.objs.size u u2 →
        (∀ c o, c ∉ [z, TI, TO, i1, i2] → s.heap.get? c = some o → h'.get? c = some o) →
        wpAny (model X.prog X.w) A.in1 (updateSeq S (·.push (.ref s.heap.objs.size)) >>= fun _ => again (.builtin "list.extend.loop" ⟨[.ref S, .ref z, .none], []⟩))
          (fun fin s' => match fin with | .done f => R (.ok f) s' | .again c' => c'.quiet = true ∧ codeAny (model X.prog X.w) A c' R s') (fun e s' => R (.error e) s') { s with heap := h' } := fun h' T' f oT' hz' hT1 hT2 hT3 hTO' hTI' h1' h2' hT' hk' => by
      have new : ObjOk X.prog X.w (upd G s.heap.objs.size (.tup [x, y])) h' s.heap.objs.size (.tup [x, y]) :=
        ⟨by show 2 ≤ sizeLine; decide, [u, u2], .cons ru (.cons ru2 .nil), ⟨_, hT', rfl, _, rfl⟩⟩
      have I1 : Inv X pins σ (upd G s.heap.objs.size (.tup [x, y])) { s with heap := h' } := I.turnedNew (t' := s.toks) (ch := [z, TI, TO, i1, i2]) hk' hf (Nat.le_refl _) new
      have hG : G s.heap.objs.size = none := I.hok.fresh (Nat.le_refl _)
      have hST : S ≠ s.heap.objs.size := fun q => by rw [← q, hS] at hG; cases hG
      have hS1 : (upd G s.heap.objs.size (.tup [x, y])) S = some (.lst ts) := by rw [upd_ne hST]; exact hS
      obtain ⟨zl, itS, n, rS, lS, eS⟩ := I1.lstM hS1
      refine wpAny_bind (wpAny_updateSeq (f := (·.push (.ref s.heap.objs.size))) eS rfl (wpAny_pure ⟨plainId_quiet F.plain_extend_loop _, ?_⟩) (by rw [List.size_toArray]; omega) (by rw [Array.size_push, List.size_toArray]; omega))
      have I2 : Inv X pins σ (upd (upd G s.heap.objs.size (.tup [x, y])) S (.lst (ts ++ [.ref s.heap.objs.size]))) { s with heap := h'.update S (Obj.mapSeq (·.push (.ref s.heap.objs.size))) } :=
        I1.lset (its' := itS ++ [.ref s.heap.objs.size]) (t' := s.toks) hS1 eS (by simp) (rS.append (.cons (show RelV (.ref _) (Value.ref _) from rfl) .nil)) (by rw [List.length_append]; show ts.length + 1 ≤ sizeLine; exact Nat.le_trans (by omega : ts.length + 1 ≤ 1001) (by decide))
      have Sfp : S ∉ [z, TI, TO, i1, i2] := fun hc => by have := (hf S hc).1; rw [hS] at this; cases this
      have keep3 : ∀ b o, b ≠ S → h'.get? b = some o → (h'.update S (Obj.mapSeq (·.push (.ref s.heap.objs.size)))).get? b = some o := fun b o hb e => (Heap.get?_update_other _ _ (Ne.symm hb)).trans e
      have nS : ∀ c ∈ [z, TI, TO, i1, i2], c ≠ S := fun c hc q => Sfp (by rw [← q]; exact hc)
      refine ih (i + 1) _ _ (ts ++ [.ref s.heap.objs.size]) (by omega) hlt I2 ⟨.inr ⟨T', f, _, keep3 _ _ (nS _ (by simp)) hz', keep3 _ _ hT3 hT1, hT2, hT3⟩, keep3 _ _ (nS _ (by simp)) hTI', ?_, h1'.at fun o q => keep3 _ o (nS _ (by simp)) q, h2'.at fun o q => keep3 _ o (nS _ (by simp)) q⟩ (fun c hc => ?_) upd_same (fun b o q => ?_) (by rw [List.length_append, htl]; rfl) fun j v hv => ?_
      · obtain ⟨a, b, hab⟩ := hTO'
        exact ⟨a, b, keep3 _ _ (nS _ (by simp)) hab⟩
      · obtain ⟨f1, f2⟩ := hf c hc
        refine ⟨?_, f2⟩
        rw [upd_ne (nS c hc), upd_ne (fun q => hTn (by rw [← q]; exact hc))]
        exact f1
      · rw [upd_ne (ne_of_none q hS0), upd_ne (ne_of_none (hk b o q) hG)]; exact hk b o q
      · by_cases c : j < ts.length
        · rw [List.getElem?_append_left c] at hv
          obtain ⟨t, x1, y1, w1, w2, w3, w4, w5, w6⟩ := hts j v hv
          exact ⟨t, x1, y1, w1, w2, w3, w4, w5, by rw [upd_ne w5, upd_ne (ne_of_none w6 hG)]; exact w6⟩
        · have c2 : j = ts.length := by
            have := (List.getElem?_eq_some_iff.mp hv).1
            simp at this; omega
          subst c2
          rw [List.getElem?_append_right (Nat.le_refl _)] at hv
          simp at hv
          refine ⟨s.heap.objs.size, x, y, hv.symm, by rw [htl]; exact hx, by rw [htl]; exact hy, ?_, hST.symm, by rw [upd_ne hST.symm, upd_same]⟩
          cases e : H0 s.heap.objs.size with
          | none => rfl
          | some o => rw [hk _ _ e] at hG; cases hG
    rcases hz with ⟨hz, _⟩ | ⟨T, f, oT, hz, hT, hTn, hTS⟩
    · refine wpAny_bind (wpAny_pyNext_zip_item D hz hTI hTO h1 h2 p1.isList p2.isList (x := u) (y := u2) (by simpa using hu) (by simpa using hu2) fun h' hz' hTO' h1' h2' hT' hsz hk' => ?_)
      exact go h' s.heap.objs.size false _ hz' hT' hTn hsS ⟨_, _, hTO'⟩ (hk' _ _ D.TIz D.TITO D.TIi1 D.TIi2 hTI) h1' h2' hT' fun c o hb q => hk' c o (fun q' => hb (by simp [q'])) (fun q' => hb (by simp [q'])) (fun q' => hb (by simp [q'])) (fun q' => hb (by simp [q'])) q
    · refine wpAny_bind (wpAny_pyNext_zip_item_held D hz hT hTI h1 h2 p1.isList p2.isList (x := u) (y := u2) (by simpa using hu) (by simpa using hu2) fun h' hz' h1' h2' hT' hsz hk' => ?_)
      exact go h' T true _ hz' (hk' _ _ (fun q' => hTn (by simp [q'])) (fun q' => hTn (by simp [q'])) (fun q' => hTn (by simp [q'])) hT) hTn hTS ⟨_, _, hk' _ _ D.TOz D.TOi1 D.TOi2 hTO⟩ (hk' _ _ D.TIz D.TIi1 D.TIi2 hTI) h1' h2' hT' fun c o hb q => hk' c o (fun q' => hb (by simp [q'])) (fun q' => hb (by simp [q'])) (fun q' => hb (by simp [q'])) q
/-- list(z) of a new zip -/
theorem call_list_zip {s : Shared} {Q' : Value → Shared → Prop} {E : Value → Shared → Prop} (hh : A.handled = none) (D : ZipApart z TI TO i1 i2 l1 l2) (hl : xs.length ≤ 1000) (q1 : SqL X.K H0 l1 xs) (q2 : SqL X.K H0 l2 ys)
    (I : Inv X pins σ H0 s) (hz : IsZip s.heap z TI TO .none) (hTI : IsPair s.heap TI (.ref i1) (.ref i2)) (hTO : ∃ a b, IsPair s.heap TO a b) (h1 : s.heap.IsListIter i1 l1 0) (h2 : s.heap.IsListIter i2 l2 0) (hf : ∀ c ∈ [z, TI, TO, i1, i2], FpOk X pins H0 c)
    (hQ : ∀ s' G ts S, Inv X pins σ G s' → H0 S = none → G S = some (.lst ts) → (∀ b o, H0 b = some o → G b = some o) → ts.length = min xs.length ys.length → (∀ (i : Nat) v, ts[i]? = some v → ∃ t x y, v = .ref t ∧ xs[i]? = some x ∧ ys[i]? = some y ∧ H0 t = none ∧ t ≠ S ∧ G t = some (.tup [x, y])) → Q' (.ref S) s') :
    wpAny (model X.prog X.w) A (call (.type "list") [.ref z]) Q' E s := by
  have zlt := Heap.lt_size hz
  have hSz : s.heap.objs.size ≠ z := Nat.ne_of_gt zlt
  have hS0 : H0 s.heap.objs.size = none := I.hok.fresh (Nat.le_refl _)
  refine callType_codes (Q₁ := fun obj s₁ => obj = .ref s.heap.objs.size ∧ s₁ = { s with heap := s.heap.push { cls := .type "list", data := .seq #[] } }) F.called_list (F.typeCall_list_1 _) F.entry_list_init
    (code_list_new _ ⟨rfl, rfl⟩) fun obj s₁ h₁ => ?_
  obtain ⟨rfl, rfl⟩ := h₁
  have hS : (s.heap.push { cls := .type "list", data := .seq #[] }).get? s.heap.objs.size = some { cls := .type "list", data := .seq #[] } := Heap.get?_push_size _ rfl
  refine ⟨⟨_, hS, rfl⟩, F.args_list_init_2 _ _, ?_⟩
  show wpAny _ A.in1.in1 (do let old ← Builtin.List.listItems (.ref s.heap.objs.size); Builtin.List.listUpdate (.ref s.heap.objs.size) (fun _ => #[]); letGo old.toList.reverse; Builtin.List.listExtendWith (.ref s.heap.objs.size) (.ref z) .none) _ _ _
  refine wpAny_bind ?_
  unfold Builtin.List.listItems
  refine wpAny_bind (wpAny_seqItems hS rfl (wpAny_pure ?_))
  show wpAny _ A.in1.in1 (updateSeq s.heap.objs.size (fun _ => #[]) >>= fun _ => letGo (#[] : Array Value).toList.reverse >>= fun _ => Builtin.List.listExtendWith (.ref s.heap.objs.size) (.ref z) .none) _ _ _
  refine wpAny_bind (wpAny_updateSeq hS rfl ?_)
  have hS2 := Heap.get?_update_self (Obj.mapSeq (fun _ => (#[] : Array Value))) hS rfl
  refine wpAny_bind (wpAny_letGo ?_)
  unfold Builtin.List.listExtendWith
  have up : ∀ (h : Heap) (f : Obj → Obj), (∀ b o, s.heap.get? b = some o → h.get? b = some o) → ∀ b o, s.heap.get? b = some o → (h.update s.heap.objs.size f).get? b = some o := fun h f q b o e =>
    (Heap.get?_update_other _ _ (Ne.symm (Nat.ne_of_lt (Heap.lt_size e)))).trans (q b o e)
  have k1 : ∀ b o, s.heap.get? b = some o → (s.heap.push { cls := .type "list", data := .seq #[] }).get? b = some o := fun b o e => Heap.get?_push_of_some _ e
  have k2 := up _ (Obj.mapSeq (fun _ => (#[] : Array Value))) k1
  have zty : ∀ {h : Heap}, (∀ b o, s.heap.get? b = some o → h.get? b = some o) → ({ s with heap := h } : Shared).TypeIs (.ref z) "zip" := fun {h} q => ⟨_, q _ _ hz, rfl⟩
  refine wpAny_bind (wpAny_typeOf (s := { s with heap := _ }) (zty k2) ?_)
  have g1 : Builtin.List.listSameRef (.ref s.heap.objs.size) (.ref z) = false := by simp [Builtin.List.listSameRef, hSz]
  have g2 : (Value.type "zip" == Value.type "list") = false := by decide
  have g3 : (Value.type "zip" == Value.type "tuple") = false := by decide
  simp only [g1, g2, g3, Bool.or_false, Bool.false_eq_true, if_false]
  refine wpAny_bind (wpAny_pyIter_zip (s := { s with heap := _ }) (k2 _ _ hz) ?_)
  refine wpAny_bind (wpAny_holding ?_)
  unfold Builtin.List.listLengthHint
  refine wpAny_bind (wpAny_specialOf (s := { s with heap := _ }) (zty k2) zip_no_len ?_)
  show wpAny _ A.in1.in1 (specialOf (Value.ref z) (Str.ofString "__length_hint__") >>= _) _ _ _
  refine wpAny_bind (wpAny_specialOf (s := { s with heap := _ }) (zty k2) zip_no_hint ?_)
  refine wpAny_pure ?_
  show wpAny _ A.in1.in1 (rule "list.extend.makes-room" >>= fun _ => Builtin.List.listTouch (.ref s.heap.objs.size) >>= fun _ =>
    again (.builtin "list.extend.loop" ⟨[.ref s.heap.objs.size, .ref z, .none], []⟩)) _ _ _
  refine wpAny_bind (wpAny_rule ?_)
  refine wpAny_bind ?_
  show wpAny _ A.in1.in1 (updateSeq s.heap.objs.size (·.push .none) >>= fun _ => updateSeq s.heap.objs.size (·.pop)) _ _ _
  refine wpAny_bind (wpAny_updateSeq hS2 rfl ?_)
  have hS3 := Heap.get?_update_self (Obj.mapSeq (·.push Value.none)) hS2 rfl
  refine wpAny_updateSeq (hz := by seq_fits) hS3 rfl ?_
  have hS4 := Heap.get?_update_self (Obj.mapSeq (·.pop)) hS3 rfl
  have k4 := up _ (Obj.mapSeq (·.pop)) (up _ (Obj.mapSeq (·.push Value.none)) k2)
  refine wpAny_pure ⟨plainId_quiet F.plain_extend_loop _, ?_⟩
  have I1 := I.laid (t' := s.toks) (a := s.heap.objs.size) (o := .lst []) k4 (Nat.le_refl _) ⟨Nat.zero_le _, [], _, .nil, hS4⟩
  refine zip_drain (A := A.in1) (S := s.heap.objs.size) hh D (fun s' G ts a1 a2 a3 a4 a5 => ⟨rfl, hQ s' G ts _ a1 hS0 a2 a3 a4 a5⟩) hS0 hl q1 q2 (min xs.length ys.length) 0 _ _ [] (by omega) (Nat.zero_le _) I1 ⟨.inl ⟨k4 _ _ hz, rfl⟩, k4 _ _ hTI, ?_, h1.at fun o q => k4 _ o q, h2.at fun o q => k4 _ o q⟩ (fun c hc => ?_) upd_same (fun b o q => by rw [upd_ne (ne_of_none q hS0)]; exact q) rfl fun i v h => by simp at h
  · obtain ⟨a, b, hab⟩ := hTO
    exact ⟨a, b, k4 _ _ hab⟩
  · obtain ⟨f1, f2⟩ := hf c hc
    refine ⟨?_, f2⟩
    have : c ≠ s.heap.objs.size := fun q => by
      have e' : c = z ∨ c = TI ∨ c = TO ∨ c = i1 ∨ c = i2 := by simpa using hc
      obtain ⟨a, b, hab⟩ := hTO
      obtain ⟨o1, e1, _⟩ := h1
      obtain ⟨o2, e2, _⟩ := h2
      rcases e' with w | w | w | w | w
      · rw [← w, q] at zlt; exact Nat.lt_irrefl _ zlt
      · have := Heap.lt_size hTI; rw [← w, q] at this; exact Nat.lt_irrefl _ this
      · have := Heap.lt_size hab; rw [← w, q] at this; exact Nat.lt_irrefl _ this
      · have := Heap.lt_size e1; rw [← w, q] at this; exact Nat.lt_irrefl _ this
      · have := Heap.lt_size e2; rw [← w, q] at this; exact Nat.lt_irrefl _ this
    rw [upd_ne this]; exact f1
end
/-- list(zip(a, b)) -/
def tListZip (K : PySem.W.Frag) (ta : TA) : TE := fun σ H Q => ta σ H fun vs H1 => ∃ a b xs ys, vs = [.ref a, .ref b] ∧ SqL K H1 a xs ∧ SqL K H1 b ys ∧ xs.length ≤ 1000 ∧
  ∀ S G ts, H1 S = none → Ex H1 G → G S = some (.lst ts) → ts.length = min xs.length ys.length → (∀ (i : Nat) v, ts[i]? = some v → ∃ t x y, v = .ref t ∧ xs[i]? = some x ∧ ys[i]? = some y ∧ G t = some (.tup [x, y])) → Q (.ref S) G
section
variable {X : Cx} {e e2 : Expr} {ta : TA} {p p2 pos pos2 : Pos}
theorem pe_listZip (hc : X.calm = true) (hg : Gl X "list") (hm : X.mg "list" = none) (hg2 : Gl X "zip") (hm2 : X.mg "zip" = none) (ha : PA X [e, e2] ta)
    (hs : starEach [e, e2] X.env = (false, eval e X.env) :: starEach [e2] X.env := by rfl) (hpl : (backTo pos2 (starEach [e2] X.env)).any (·.1) = false := by rfl)
    (na : starEach [.Call (.Name "zip" p2) [e, e2] [] pos2] X.env = (false, eval (.Call (.Name "zip" p2) [e, e2] [] pos2) X.env) :: starEach [] X.env := by rfl) :
    PE X (.Call (.Name "list" p) [.Call (.Name "zip" p2) [e, e2] [] pos2] [] pos) (tListZip X.K ta) := by
  refine ⟨fun pins s σ H Q I h => ?_⟩
  refine Call_ (ld_blt I hg hm boot_list (PyProof.Rows.callWith_type1 (args_cons ?_ na) na))
  refine Call_ (ld_blt I hg2 hm2 PyProof.Rows.boot_zip (PyProof.Rows.callWith_type1 (thn (ha.run pos2 pins s σ H _ I h) fun us s1 ⟨vs, H1, I1, r1, q1⟩ => ?_) hs hpl))
  obtain ⟨a, b, xs, ys, ex, hqx, hqy, hl, q⟩ := q1
  subst ex
  cases r1 with
  | cons r rr =>
    cases rr with
    | cons r' rr =>
      cases rr
      cases r
      cases r'
      obtain ⟨its, rv, p1, _⟩ := I1.list hqx
      obtain ⟨its2, rv2, p2, _⟩ := I1.list hqy
      refine call_zip_2 p1.isList p2.isList fun h' hz hTI hTO h1 h2 hsz hk => args_nil ?_
      have I2 : Inv X pins σ H1 { s1 with heap := h' } := I1.kept (t' := s1.toks) hk
      refine call_list_zip (I1.ok.hd hc) (PySem.W.ktu_apart s1.heap.objs.size a b p1.lt p2.lt) hl hqx hqy I2 hz hTI ⟨_, _, hTO⟩ h1 h2 (fun c hcm => ?_) fun s' G ts S J hS hG hk2 hlen hat => ?_
      · have e' : c = s1.heap.objs.size + 4 ∨ c = s1.heap.objs.size + 2 ∨ c = s1.heap.objs.size + 3 ∨ c = s1.heap.objs.size ∨ c = s1.heap.objs.size + 1 := by simpa using hcm
        have hle : s1.heap.objs.size ≤ c := by
          rcases e' with z | z | z | z | z
          · rw [z]; exact Nat.le_add_right _ _
          · rw [z]; exact Nat.le_add_right _ _
          · rw [z]; exact Nat.le_add_right _ _
          · rw [z]; exact Nat.le_refl _
          · rw [z]; exact Nat.le_add_right _ _
        exact I1.fpOk hle (I1.hok.fresh hle)
      · exact ⟨.ref S, G, J, rfl, q S G ts hS hk2 hG hlen fun i v hv => by
          obtain ⟨t, x, y, w1, w2, w3, _, _, w6⟩ := hat i v hv
          exact ⟨t, x, y, w1, w2, w3, w6⟩⟩
end
end K21
/-! ## R2 -/
set_option Elab.async false
set_option linter.all false
set_option maxRecDepth 100000
set_option maxHeartbeats 4000000
/-! sorted(..) of lists that read as data. -/
namespace K21
open PySem PySem.Spec PyProof.Rows L2
def rSortedD (K : PySem.W.Frag) : List V → Hp → VK → Prop := fun us H Q => ∃ (a : Addr) (xs : List V) (ds : List PyData), us = [V.ref a] ∧ SqL K H a xs ∧ DpAll K H xs ds ∧ PySem.W.AllAlike ds ∧ PySem.W.Sortable ds ∧ (∀ d ∈ ds, d.depth ≤ 8) ∧ xs.length ≤ 1000 ∧
  ∀ (ps : List (V × PyData)) (q : Addr), ps.Perm (xs.zip ds) → ps.map (·.2) = ds.mergeSort (PySem.W.dataLe false id) → H q = none → Q (.ref q) (upd H q (.lst (ps.map (·.1))))
theorem each_dp {X : Cx} {pins : List (Addr × Obj)} {σ : L2.St} {H : Hp} {s : Shared} (I : Inv X pins σ H s) : ∀ (xs : List V) (ds : List PyData) (us : List Value), DpAll X.K H xs ds → Vals xs us →
    PySem.W.EachIs (fun (u : Value) (b : V × PyData) => RelV b.1 u) us (xs.zip ds) ∧ PySem.W.EachIs (fun (u : Value) (b : V × PyData) => ∃ as, Reads s.heap u b.2 as) us (xs.zip ds)
  | [], ds, us, h, r => by
    cases h; cases r; exact ⟨.nil, .nil⟩
  | x :: xs, ds, us, h, r => by
    cases h with
    | cons h1 h2 =>
      cases r with
      | cons r1 r2 =>
        obtain ⟨e1, e2⟩ := each_dp I xs _ _ h2 r2
        exact ⟨.cons r1 e1, .cons (Dp.reads I _ _ _ h1 r1) e2⟩
theorem each_vals {us : List Value} {ps : List (V × PyData)} (h : PySem.W.EachIs (fun (u : Value) (b : V × PyData) => RelV b.1 u) us ps) : Vals (ps.map (·.1)) us := by
  induction h with
  | nil => exact .nil
  | cons h1 _ ih => exact .cons h1 ih
theorem cr_sortedData {X : Cx} (hu : X.A.units + 64 < cLine) : CallR X (.builtin "sorted") (rSortedD X.K) := by
  intro pins s σ H vs us Q I r h
  obtain ⟨a, xs, ds, rfl, hs, hd, hal, hk, hdep, h1000, q⟩ := h
  obtain ⟨its, rv, hl, _⟩ := I.list hs
  rw [Vals.ref1 r]
  have hlen := dpa_len hd
  obtain ⟨e1, e2⟩ := each_dp I xs ds its hd rv
  have em : (xs.zip ds).map (·.2) = ds := by rw [List.map_snd_zip]; omega
  refine PySem.W.sorted_data (enc := fun b : V × PyData => b.2) hl.isList e1 e2 (by rw [em]; exact hal) (by rw [em]; exact hk) (by rw [List.length_zip]; exact Nat.le_trans (by omega : min xs.length ds.length ≤ 1000) (by decide)) (fun b hb => ?_) fun out ho eo => ?_
  · have : b.2 ∈ ds := by rw [← em]; exact List.mem_map.mpr ⟨b, hb, rfl⟩
    have := hdep _ this
    omega
  · obtain ⟨ep, he'⟩ := PyProof.Rows.sortedAll_at s.heap its out.toArray
    have hv := each_vals eo
    have hp : ((xs.zip ds).mergeSort (PySem.W.dataLe false fun b : V × PyData => b.2)).Perm (xs.zip ds) := List.mergeSort_perm _ _
    have hz : (((xs.zip ds).mergeSort (PySem.W.dataLe false fun b : V × PyData => b.2)).map (·.1)).length ≤ sizeLine := by
      rw [List.length_map, hp.length_eq, List.length_zip]
      exact Nat.le_trans (by omega : min xs.length ds.length ≤ 1000) (by decide)
    refine ⟨.ref _, upd H (s.heap.objs.size + 1) (.lst (((xs.zip ds).mergeSort (PySem.W.dataLe false fun b : V × PyData => b.2)).map (·.1))), I.laid (t' := s.toks) (fun _ _ => PyProof.Rows.sortedAll_old) (Nat.le_succ _) ⟨hz, out, ep, hv, by simpa using he'⟩, rfl, q _ _ hp ?_ (I.hok.fresh (Nat.le_succ _))⟩
    exact (List.map_mergeSort (r := PySem.W.dataLe false fun b : V × PyData => b.2) (s := PySem.W.dataLe false id) (f := fun b : V × PyData => b.2) (fun a _ b _ => rfl)).trans (by rw [em])
theorem cr_sortedData_k {X : Cx} (K : PySem.W.Frag) (hu : X.A.units + 64 < cLine) (h : X.K = K := by rfl) : CallR X (.builtin "sorted") (rSortedD K) := by subst h; exact cr_sortedData hu
/-! ### lists of texts in their order -/
def lstS (x : List Str) : List (List Nat) := x.map fun s => s.cps.toList
theorem toL_inj {a b : Str} (h : a.cps.toList = b.cps.toList) : a = b := by
  have e2 : a.cps = b.cps := Array.toList_inj.mp h
  cases a; cases b; simp only at e2; rw [e2]
theorem rowLt_strs : ∀ xs ys : List Str, PySem.W.rowLt (xs.map .str) (ys.map .str) = decide (lstS xs < lstS ys)
  | [], [] => by
    have e : PySem.W.rowLt [] [] = false := lex_irrefl _
    simp [e, lstS]
  | [], y :: ys => by
    have e : PySem.W.rowLt [] (PyData.str y :: ys.map .str) = true := by
      unfold PySem.W.rowLt
      rw [PySem.W.toks_all_cons]
      simp only [PySem.W.keyToksAll]
      rw [lex_diff (O := itemOrd) (by simp)]
      rfl
    simpa [lstS] using e
  | x :: xs, [] => by
    have e : PySem.W.rowLt (PyData.str x :: xs.map .str) [] = false := by
      unfold PySem.W.rowLt
      rw [PySem.W.toks_all_cons]
      simp only [PySem.W.keyToksAll]
      rw [lex_diff (O := itemOrd) (by simp)]
      rfl
    simpa [lstS] using e
  | x :: xs, y :: ys => by
    have e : PySem.W.rowLt (PyData.str x :: xs.map .str) (PyData.str y :: ys.map .str) = if x = y then PySem.W.rowLt (xs.map .str) (ys.map .str) else decide (x.cps.toList < y.cps.toList) := by
      unfold PySem.W.rowLt
      rw [PySem.W.dataLt_cons (by simp [PySem.W.alike]), PySem.W.dataLt_str]
      simp only [PyData.eqv, beq_iff_eq]
    show PySem.W.rowLt (PyData.str x :: xs.map .str) (PyData.str y :: ys.map .str) = _
    rw [e]
    by_cases h : x = y
    · rw [if_pos h, rowLt_strs xs ys]
      subst h
      simp [lstS, List.cons_lt_cons_iff]
      exact decide_eq_decide.mpr Iff.rfl
    · rw [if_neg h]
      have h2 : x.cps.toList ≠ y.cps.toList := fun z => h (toL_inj z)
      simp [lstS, h2, List.cons_lt_cons_iff]
theorem dataLe_strs (x y : List Str) : PySem.W.dataLe false id (.list (x.map .str)) (.list (y.map .str)) = !decide (lstS y < lstS x) := by
  show (!PySem.W.dataLt (.list (y.map .str)) (.list (x.map .str))) = _
  rw [PySem.W.dataLt_list, ← rowLt_strs]; rfl
/-- the order of closed lists is the order of lists of texts -/
theorem lex_lst {x y : List Str} (h : LexLt LtS (x.map some) (y.map some)) : lstS x < lstS y := by
  obtain ⟨i, a, b, h1, h2, h3, h4⟩ := h
  rw [List.getElem?_map] at h2 h3
  obtain ⟨a2, ha, ea⟩ := Option.map_eq_some_iff.mp h2
  obtain ⟨b2, hb, eb⟩ := Option.map_eq_some_iff.mp h3
  cases ea; cases eb
  obtain ⟨la, ea⟩ := List.getElem?_eq_some_iff.mp ha
  obtain ⟨lb, eb⟩ := List.getElem?_eq_some_iff.mp hb
  refine List.lt_iff_exists.mpr (.inr ⟨i, by simpa [lstS] using la, by simpa [lstS] using lb, fun j hj => ?_, ?_⟩)
  · have := h1 j hj
    rw [List.getElem?_map, List.getElem?_map, List.getElem?_eq_getElem (by omega : j < x.length), List.getElem?_eq_getElem (by omega : j < y.length)] at this
    have e : x[j] = y[j] := Option.some.inj (Option.some.inj this)
    simp [lstS, e]
  · simp only [lstS, List.getElem_map]
    rw [ea, eb]
    exact ltS_iff.mp h4
/-- sorting what is a shuffling of an ascending row of lists gives the row -/
theorem sort_rows {l ns : List (List Str)} (hp : l.Perm ns) (ha : ns.Pairwise fun x y => lstS x < lstS y) : (l.map fun x => PyData.list (x.map .str)).mergeSort (PySem.W.dataLe false id) = ns.map fun x => PyData.list (x.map .str) := by
  have tl := PySem.W.sortLe_total (listOrd itemOrd) false (fun b : PyData => PySem.W.keyToks (id b))
  refine List.Perm.eq_of_pairwise (le := fun a b => PySem.W.dataLe false id a b = true) (fun a b ha hb h1 h2 => ?_) (List.pairwise_mergeSort (le := PySem.W.dataLe false id) (fun a b c h1 h2 => tl.trans a b c h1 h2) (fun a b => by
    rcases tl.total a b with h | h
    · exact Bool.or_eq_true _ _ ▸ .inl h
    · exact Bool.or_eq_true _ _ ▸ .inr h) _) ?_ ((List.mergeSort_perm _ _).trans (hp.map _))
  · have ha := (List.mergeSort_perm _ _).mem_iff.mp ha
    obtain ⟨x, _, rfl⟩ := List.mem_map.mp ha
    obtain ⟨y, _, rfl⟩ := List.mem_map.mp hb
    rw [dataLe_strs] at h1 h2
    have h1 : ¬ lstS y < lstS x := by simpa using h1
    have h2 : ¬ lstS x < lstS y := by simpa using h2
    have e : lstS x = lstS y := List.le_antisymm h1 h2
    have : x = y := by
      unfold lstS at e
      exact map_inj (fun a b h => toL_inj h) e
    rw [this]
  · refine List.Pairwise.map _ (fun x y h => ?_) ha
    rw [dataLe_strs]
    have : ¬ lstS y < lstS x := fun z => List.lt_irrefl _ (List.lt_trans h z)
    simp [this]
end K21
/-! ## W18 -/
set_option Elab.async false
set_option linter.all false
set_option maxRecDepth 100000
set_option maxHeartbeats 4000000
/-! Models, records, logs. -/
namespace K21
open PySem PySem.Spec PyProof.Rows L2
def kdOf (k : Int) : Kd := if k = 0 then .ins else if k = 1 then .rem else .fro
/-- rows: pairs of an item and an index -/
def RowsAt (H : Hp) (r : Addr) (rows : List (Str × Int)) : Prop := ∃ ts, H r = some (.lst ts) ∧ PairsIn H ts rows
theorem RowsAt.ex {H H' : Hp} {r : Addr} {rows : List (Str × Int)} (h : RowsAt H r rows) (e : Ex H H') : RowsAt H' r rows := by
  obtain ⟨ts, h1, h2⟩ := h
  exact ⟨ts, e _ _ h1, h2.ex e⟩
theorem pairs_ne {H : Hp} {ts : List V} {rows : List (Str × Int)} (h : PairsIn H ts rows) (d m c : Int) : HO.lst ts ≠ .lst [.int d, .int m, .int c] := fun z => by
  injection z with z
  subst z
  obtain ⟨t, n, s, h1, _⟩ := h.at_ 0 (.int d) rfl
  cases h1
theorem RowsAt.ne {H : Hp} {a r : Addr} {rows : List (Str × Int)} (h : RowsAt H r rows) (f : FeedAt H a) : r ≠ a := by
  obtain ⟨ts, h1, h2⟩ := h
  exact feed_ne f h1 (pairs_ne h2)
theorem RowsAt.eb {H H' : Hp} {a r : Addr} {rows : List (Str × Int)} (h : RowsAt H r rows) (f : FeedAt H a) (e : Eb a H H') : RowsAt H' r rows := by
  have hne := h.ne f
  obtain ⟨ts, h1, h2⟩ := h
  refine ⟨ts, e _ _ hne h1, h2.len, fun i x hx => ?_⟩
  obtain ⟨t, n, c, h3, h4, h5⟩ := h2.at_ i x hx
  exact ⟨t, n, c, h3, h4, e _ _ (feed_ne f h5 (fun _ _ _ z => by cases z)) h5⟩
/-- good rows -/
structure RowsOk (rows : List (Str × Int)) : Prop where
  few : rows.length ≤ 30
  nd : (rows.map (·.1)).Nodup
  its : ∀ r ∈ rows, okItem r.1
  sl : ∀ r ∈ rows, 0 ≤ r.2 ∧ r.2 ≤ 60
def spModel : Sp := fun vs H Q _ => ∃ (a : Addr) (n : Nat), vs = [.ref a, .int (n : Nat)] ∧ FeedAt H a ∧ n ≤ 30 ∧
  ∀ q r H' k rows, Eb a H H' → FeedAt H' a → H' q = some (.tup [.int k, .ref r]) → RowsAt H' r rows → 0 ≤ k → k < 3 → RowsOk rows → Q (.ref q) H'
def spRecord (C : Kd → Addr) : Sp := fun vs H Q _ => ∃ (k : Int) (n : Str) (s : Int), vs = [.int k, .str n, .int s] ∧ okItem n ∧ 0 ≤ s ∧ s ≤ 60 ∧ ∀ r H', H r = none → Ex H H' → RecAt C H' r (kdOf k) n s → Q (.ref r) H'
def spBook (C : Kd → Addr) : Sp := fun vs H Q _ => ∃ (m r : Addr) (k : Int) (rows : List (Str × Int)), vs = [.ref m] ∧ H m = some (.tup [.int k, .ref r]) ∧ RowsAt H r rows ∧ RowsOk rows ∧ ∀ q H', H q = none → Ex H H' → BookAt C H' q (kdOf k) rows → Q (.ref q) H'
def spMay : Sp := fun vs H Q _ => ∃ (m r : Addr) (k : Int) (n : Str) (i : Int) (rows : List (Str × Int)), vs = [.ref m, .str n, .int i] ∧ H m = some (.tup [.int k, .ref r]) ∧ RowsAt H r rows ∧ rows.length ≤ 30 ∧ n ∈ rows.map (·.1) ∧ ∀ b H', Ex H H' → Q (.bl b) H'
section
variable {P : Program} {w : World} {K : PySem.W.Frag} {mg : Str → Option Value} {base : Heap} {C : Kd → Addr} {CB RC : Addr}
abbrev slaw_model : Stmt := top 70
abbrev Nlaw_model : List Str := ["_law_feed_here", "_law_most", "_law_kind", "_law_many"]
theorem sclaw_model : FnScope Nlaw_model ["_law_feed_here", "_law_most"] (defScope slaw_model) := ⟨rfl, rfl, rfl, by decide +kernel, rfl, by decide +kernel, by decide +kernel⟩
-- 0 _law_feed_here, 1 _law_most, 2 _law_kind, 3 _law_many
theorem cal_model (F : DF K mg "_law_model" slaw_model ["_law_feed_here", "_law_most"]) (T : Txt K mg C CB RC) (c__law_pick : C8.Cal P w K mg base 1 "_law_pick" spPick []) (c__law_names : C8.Cal P w K mg base 3 "_law_names" spNames []) (c__law_slots : C8.Cal P w K mg base 3 "_law_slots" spSlots []) : C8.Cal P w K mg base 4 "_law_model" spModel [] := by
  refine F.cal sclaw_model (fun vs H Q E h => ?_) (fun f cdv A outer s H vs Q E hr h => ?_)
  · obtain ⟨a, n, rfl, _⟩ := h
    rfl
  · obtain ⟨a, n, rfl, hf, hn, q⟩ := h
    refine ⟨_, (pss_cons (ps_par (i := 2) (j := 3) (by rfl) sclaw_model.nd rfl rfl (by decide) rfl rfl (pa_cons (C8.pe_c c__law_pick hr (by decide) (by rfl) (pa_cons (pv 0) (pa_cons pe_int pa_nil))) (pa_cons (pe_ix (ix_list_k K) (pe_lst (pa_cons (C8.pe_c c__law_pick hr (by decide) (by rfl) (pa_cons (pv 0) (pa_cons (pe_op op_add (pv 1) pe_int) pa_nil))) (pa_cons (pv 1) pa_nil))) (C8.pe_c c__law_pick hr (by decide) (by rfl) (pa_cons (pv 0) (pa_cons pe_int pa_nil))) (fun _ _ => rfl)) pa_nil)) (by rfl))
      (pss_one (ps_ret (pe_tup (pa_cons (pv 2) (pa_cons (pe_listZip rfl (by rfl) T.list_ (by rfl) T.zip_ (pa_cons (C8.pe_c c__law_names hr (by decide) (by rfl) (pa_cons (pv 0) (pa_cons (pv 3) pa_nil))) (pa_cons (C8.pe_c c__law_slots hr (by decide) (by rfl) (pa_cons (pv 0) (pa_cons (pv 2) (pa_cons (pv 3) pa_nil)))) pa_nil))) pa_nil)))))), ?_⟩
    refine ⟨_, rfl, a, 3, rfl, hf, by omega, small_le (by omega), fun k H1 e1 hf1 k0 k1 => ?_⟩
    refine ⟨_, rfl, _, rfl, _, _, rfl, rfl, a, _, rfl, hf1, by omega, small_le (by omega), fun p H2 e2 hf2 p0 p1 => ?_⟩
    refine ⟨_, rfl, (by show 2 ≤ sizeLine; decide), fun l1 hl1 => ?_⟩
    have e3 : Ex H2 (upd H2 l1 (.lst [.int p, .int (n : Nat)])) := Evl.Ex.new hl1
    have g3 : upd H2 l1 (.lst [.int p, .int (n : Nat)]) l1 = _ := upd_same
    have n1 : a ≠ l1 := feed_some hf2 hl1
    generalize upd H2 l1 (.lst [.int p, .int (n : Nat)]) = H3 at e3 g3 ⊢
    refine ⟨_, rfl, a, 2, rfl, hf2.ex e3, by omega, small_le (by omega), fun j H4 e4 hf4 j0 j1 => ?_⟩
    have g4 := e4 _ _ n1.symm g3
    obtain ⟨m, hm, hat⟩ : ∃ m : Nat, m ≤ n ∧ atI [V.int p, V.int (n : Nat)] j = some (V.int (m : Nat)) := by
      have : j = 0 ∨ j = 1 := by omega
      rcases this with rfl | rfl
      · obtain ⟨m, rfl⟩ := Int.eq_ofNat_of_zero_le p0
        exact ⟨m, by omega, atI_nat (j := 0) rfl⟩
      · exact ⟨n, Nat.le_refl _, atI_nat (j := 1) rfl⟩
    have e04 := ((e1.trans e2).trans (Eb.ofEx e3)).trans e4
    refine ⟨l1, _, _, _, rfl, rfl, Evl.sq_of g4, hat, _, _, rfl, ?_⟩
    refine ⟨_, rfl, _, rfl, _, rfl, a, m, rfl, hf4, by omega, fun q1 H5 ns hq1 e5 hf5 h5 hns => ?_⟩
    refine ⟨_, rfl, _, rfl, _, rfl, a, k, m, rfl, hf5, by omega, fun q2 H6 ss hq2 e6 hf6 h6 hsl hss => ?_⟩
    have nq1 : q1 ≠ a := fun z => by
      obtain ⟨_, _, _, h⟩ := hf4
      rw [← z, hq1] at h; cases h
    have h56 := e6 _ _ nq1 h5
    have nl : ns.length = m := by rw [hns.length_eq]; unfold namesL; simp
    refine ⟨q1, q2, _, _, rfl, Evl.sq_of h56, Evl.sq_of h6, by rw [List.length_map]; omega, fun S G ts hS eG hG hlen hat => ?_⟩
    refine ⟨by show 2 ≤ sizeLine; decide, fun t ht => ?_⟩
    have e7 : Ex G (upd G t (.tup [.int k, .ref S])) := Evl.Ex.new ht
    have el : (ns.zip ss).length = m := by rw [List.length_zip]; omega
    refine q t S _ k (ns.zip ss) ((e04.trans (e5.trans e6)).trans (Eb.ofEx (eG.trans e7))) (hf6.ex (eG.trans e7)) upd_same ⟨ts, e7 _ _ hG, ?_, fun i x hx => ?_⟩ k0 k1 ⟨by omega, ?_, fun r hr => ?_, fun r hr => ?_⟩
    · rw [hlen, el, List.length_map, List.length_map]; omega
    · obtain ⟨u, x1, y1, w1, w2, w3, w4⟩ := hat i x hx
      rw [List.getElem?_map] at w2 w3
      obtain ⟨n1, hn1, rfl⟩ := Option.map_eq_some_iff.mp w2
      obtain ⟨s1, hs1, rfl⟩ := Option.map_eq_some_iff.mp w3
      exact ⟨u, n1, s1, w1, List.getElem?_zip_eq_some.mpr ⟨hn1, hs1⟩, e7 _ _ w4⟩
    · have e9 : (ns.zip ss).map (·.1) = ns := by rw [List.map_fst_zip]; omega
      rw [e9]
      exact hns.nodup_iff.mpr (namesL_nd (by omega))
    · have := List.of_mem_zip hr
      exact namesL_ok (by omega) _ (hns.mem_iff.mp this.1)
    · have := List.of_mem_zip hr
      exact hss _ this.2
abbrev slaw_record : Stmt := top 71
abbrev Nlaw_record : List Str := ["_law_kind", "_law_name", "_law_slot"]
theorem sclaw_record : FnScope Nlaw_record ["_law_kind", "_law_name", "_law_slot"] (defScope slaw_record) := ⟨rfl, rfl, rfl, by decide +kernel, rfl, by decide +kernel, by decide +kernel⟩
-- 0 _law_kind, 1 _law_name, 2 _law_slot
theorem cal_record (F : DF K mg "_law_record" slaw_record ["_law_kind", "_law_name", "_law_slot"]) (T : Txt K mg C CB RC) (c_Inserted : C8.Mak P w K mg base 2 "Inserted" (C .ins) (spInit (C .ins)) []) (c_Removed : C8.Mak P w K mg base 2 "Removed" (C .rem) (spInit (C .rem)) []) (c_Fronted : C8.Mak P w K mg base 2 "Fronted" (C .fro) (spInit (C .fro)) []) : C8.Cal P w K mg base 4 "_law_record" (spRecord C) [] := by
  refine F.cal sclaw_record (fun vs H Q E h => ?_) (fun f cdv A outer s H vs Q E hr h => ?_)
  · obtain ⟨k, n, s, rfl, _⟩ := h
    rfl
  · obtain ⟨k, n, s1, rfl, hn, h0, h1, q⟩ := h
    have mk : ∀ kd, kdOf k = kd → ∀ x dx, H x = none → H dx = none → dx ≠ x → spInit (C kd) (.ref x :: ([.str n, .int s1] ++ [])) (upd (upd H dx (.own x)) x (.ins (C kd) dx [])) (fun v H2 => v = .non ∧ Q (.ref x) H2) E := fun kd ek x dx hx hdx hne => by
      refine ⟨x, dx, n, s1, rfl, hn, h0, h1, upd_same, fun H' hk hx' => ⟨rfl, ?_⟩⟩
      have e3 : Ex H (upd (upd H dx (.own x)) x (.ins (C kd) dx [])) := (Evl.Ex.new hdx).trans (Evl.Ex.new (by rw [upd_ne (fun z => hne z.symm)]; exact hx))
      refine q x H' hx (fun b o hb => hk b o (fun z => by rw [z, hx] at hb; cases hb) (e3 _ _ hb)) ⟨dx, ?_⟩
      rw [ek]; exact hx'
    refine ⟨_, (pss_cons (ps_if (pt_cmpR op_eq (pv 0) pe_int (nomark _)) (pss_one (ps_ret (C8.pe_mk c_Inserted hr (by decide) (by rfl) (pa_cons (pv 1) (pa_cons (pv 2) pa_nil))))) pss_nil)
      (pss_one (ps_ret (pe_ifExp (pt_cmpR op_eq (pv 0) pe_int (nomark _)) (C8.pe_mk c_Removed hr (by decide) (by rfl) (pa_cons (pv 1) (pa_cons (pv 2) pa_nil))) (C8.pe_mk c_Fronted hr (by decide) (by rfl) (pa_cons (pv 1) (pa_cons (pv 2) pa_nil))))))), ?_⟩
    refine ⟨_, rfl, rfl, decide (V.int k = V.int 0), rfl, ?_⟩
    by_cases z0 : k = 0
    · rw [decide_eq_true (by rw [z0])]
      refine iteT ?_
      exact ⟨_, rfl, _, rfl, fun x dx hx hdx hne => mk .ins (by unfold kdOf; rw [if_pos z0]) x dx hx hdx hne⟩
    · rw [decide_eq_false (fun z => z0 (by injection z))]
      refine iteF ?_
      refine ⟨_, rfl, rfl, decide (V.int k = V.int 1), rfl, ?_⟩
      by_cases z1 : k = 1
      · rw [decide_eq_true (by rw [z1])]
        refine iteT ?_
        exact ⟨_, rfl, _, rfl, fun x dx hx hdx hne => mk .rem (by unfold kdOf; rw [if_neg z0, if_pos z1]) x dx hx hdx hne⟩
      · rw [decide_eq_false (fun z => z1 (by injection z))]
        refine iteF ?_
        exact ⟨_, rfl, _, rfl, fun x dx hx hdx hne => mk .fro (by unfold kdOf; rw [if_neg z0, if_neg z1]) x dx hx hdx hne⟩
end
end K21
/-! ## W19 -/
set_option Elab.async false
set_option linter.all false
set_option maxRecDepth 100000
set_option maxHeartbeats 4000000
/-! Logs of models; what an item may. -/
namespace K21
open PySem PySem.Spec PyProof.Rows L2
section
variable {P : Program} {w : World} {K : PySem.W.Frag} {mg : Str → Option Value} {base : Heap} {C : Kd → Addr} {CB RC : Addr}
abbrev slaw_book : Stmt := top 72
abbrev Nlaw_book : List Str := ["_law_model_here", "_law_kind", "_law_rows", "_law_name", "_law_slot"]
theorem sclaw_book : FnScope Nlaw_book ["_law_model_here"] (defScope slaw_book) := ⟨rfl, rfl, rfl, by decide +kernel, rfl, by decide +kernel, by decide +kernel⟩
-- 0 _law_model_here, 1 _law_kind*, 2 _law_rows, 3 _law_name, 4 _law_slot
theorem cal_book (F : DF K mg "_law_book" slaw_book ["_law_model_here"]) (T : Txt K mg C CB RC) (c__law_record : C8.Cal P w K mg base 4 "_law_record" (spRecord C) []) : C8.Cal P w K mg base 5 "_law_book" (spBook C) [] := by
  refine F.cal sclaw_book (fun vs H Q E h => ?_) (fun f cdv A outer s H vs Q E hr h => ?_)
  · obtain ⟨m, r, k, rows, rfl, _⟩ := h
    rfl
  · obtain ⟨m, r, k, rows, rfl, hm, ⟨ts, hts, hP⟩, ok, q⟩ := h
    have few := ok.few
    have hlen := hP.len
    refine ⟨_, (pss_cons (ps_asg (pv 0) (pg_tup_k K (n := 2) rfl (pgs_cons (pg_name (i := 1) sclaw_book.nd rfl (Or.inr rfl)) (pgs_cons (pg_name (i := 2) sclaw_book.nd rfl (Or.inl rfl)) pgs_nil))))
      (pss_one (ps_ret (pe_lc (own := [("_law_name", 3), ("_law_slot", 4)]) rfl sclaw_book.nd (pi_list_k K (pv 2)) (blkOk_by (N := Nlaw_book) (sc := defScope slaw_book) (own := [("_law_name", 3), ("_law_slot", 4)]) (by decide +kernel)) (fun _ _ _ _ _ => (pg_tup_k K (n := 2) rfl (pgs_cons (pg_name (i := 3) sclaw_book.nd rfl (Or.inl rfl)) (pgs_cons (pg_name (i := 4) sclaw_book.nd rfl (Or.inl rfl)) pgs_nil)))) (fun _ _ _ _ _ => pts_nil) (fun _ _ _ _ _ => (C8.pe_c c__law_record hr (by decide) (by rfl) (pa_cons (pv 1) (pa_cons (pv 3) (pa_cons (pv 4) pa_nil))))))))), ?_⟩
    refine ⟨_, rfl, m, _, rfl, .inl (.inl hm), rfl, _, _, rfl, _, _, rfl, rfl, ?_⟩
    refine ⟨_, rfl, r, rfl, ⟨_, Evl.sq_of hts⟩, fun D hD => ?_⟩
    refine lcA (walk_list (xs := ts)) (fun i acc H1 => ∃ rs : List Addr, acc = rs.map V.ref ∧ rs.length = i ∧ ∀ (j : Nat) r n s, rs[j]? = some r → rows[j]? = some (n, s) → RecAt C H1 r (kdOf k) n s) hD (by omega) (fun H1 e => Evl.sq_of (e _ _ hts)) ⟨[], rfl, rfl, fun j r n s h => by simp at h⟩ (fun i acc H1 h => ?_) (fun i acc H1 H2 h e => ?_) (fun i x H1 H' acc Qy Qn hi e hacc hA y k1 k2 => ?_) fun H1 acc e1 h1 hA => ?_
    · obtain ⟨rs, rfl, h1, _⟩ := h
      rw [List.length_map]; omega
    · obtain ⟨rs, h1, h2, h3⟩ := h
      exact ⟨rs, h1, h2, fun j r n s a b => (h3 j r n s a b).ex e⟩
    · obtain ⟨rfl, hx⟩ := y
      obtain ⟨rs, rfl, hrl, hrs⟩ := hA
      obtain ⟨t, n, c, rfl, hrow, ht⟩ := hP.at_ i x hx
      have hmem := List.mem_of_getElem? hrow
      refine ⟨t, _, rfl, .inl (.inl (e _ _ ht)), rfl, _, _, rfl, _, _, rfl, rfl, rfl, ?_⟩
      refine iteT (B := Qn H') ?_
      have hsl := ok.sl _ hmem
      refine ⟨_, rfl, _, rfl, _, rfl, k, n, c, rfl, ok.its _ hmem, hsl.1, hsl.2, fun q1 H2 hq1 e2 hr2 => ?_⟩
      refine k1 _ _ e2 ⟨rs ++ [q1], by rw [List.map_append]; rfl, by rw [List.length_append, hrl]; rfl, fun j r1 n1 s1 hj hrow1 => ?_⟩
      by_cases z : j < rs.length
      · rw [List.getElem?_append_left z] at hj
        exact (hrs j r1 n1 s1 hj hrow1).ex (del_ex e2)
      · have z2 : j = rs.length := by
          have := (List.getElem?_eq_some_iff.mp hj).1
          simp at this; omega
        subst z2
        rw [List.getElem?_append_right (Nat.le_refl _)] at hj
        simp at hj
        subst hj
        rw [hrl, hrow] at hrow1
        injection hrow1 with hrow1
        injection hrow1 with e3 e4
        subst e3 e4
        obtain ⟨dx, hr2⟩ := hr2
        refine ⟨dx, ?_⟩
        rw [del_ne (fun z => by rw [z, hacc] at hq1; cases hq1)]
        exact hr2
    · obtain ⟨rs, rfl, hrl, hrs⟩ := hA
      refine q D H1 hD e1 ⟨rs, h1, by omega, fun j r n s a b => (hrs j r n s a b).ex del_sub⟩
abbrev slaw_may : Stmt := top 73
abbrev Nlaw_may : List Str := ["_law_model_here", "_law_name", "_law_spot", "_law_kind", "_law_rows", "_law_slot", "_law_other", "_law_own"]
theorem sclaw_may : FnScope Nlaw_may ["_law_model_here", "_law_name", "_law_spot"] (defScope slaw_may) := ⟨rfl, rfl, rfl, by decide +kernel, rfl, by decide +kernel, by decide +kernel⟩
-- 0 _law_model_here, 1 _law_name*, 2 _law_spot, 3 _law_kind, 4 _law_rows, 5 _law_slot, 6 _law_other, 7 _law_own
theorem cal_may (F : DF K mg "_law_may" slaw_may ["_law_model_here", "_law_name", "_law_spot"]) (T : Txt K mg C CB RC) : C8.Cal P w K mg base 1 "_law_may" spMay [] := by
  refine F.cal sclaw_may (fun vs H Q E h => ?_) (fun f cdv A outer s H vs Q E hr h => ?_)
  · obtain ⟨m, r, k, n, i, rows, rfl, _⟩ := h
    rfl
  · obtain ⟨m, r, k, n, i, rows, rfl, hm, ⟨ts, hts, hP⟩, few, hn, q⟩ := h
    have hlen := hP.len
    refine ⟨_, (pss_cons (ps_asg (pv 0) (pg_tup_k K (n := 2) rfl (pgs_cons (pg_name (i := 3) sclaw_may.nd rfl (Or.inl rfl)) (pgs_cons (pg_name (i := 4) sclaw_may.nd rfl (Or.inl rfl)) pgs_nil))))
      (pss_cons (ps_set (i := 5) sclaw_may.nd rfl (Or.inl rfl) (pe_ix (ix_list_k K) (pe_lc (own := [("_law_other", 6), ("_law_own", 7)]) rfl sclaw_may.nd (pi_list_k K (pv 4)) (blkOk_by (N := Nlaw_may) (sc := defScope slaw_may) (own := [("_law_other", 6), ("_law_own", 7)]) (by decide +kernel)) (fun _ _ _ _ _ => (pg_tup_k K (n := 2) rfl (pgs_cons (pg_name (i := 6) sclaw_may.nd rfl (Or.inl rfl)) (pgs_cons (pg_name (i := 7) sclaw_may.nd rfl (Or.inl rfl)) pgs_nil)))) (fun _ _ _ _ _ => (pts_one (pt_cmpR op_eq (pv 6) (pv 1) (nomark _)))) (fun _ _ _ _ _ => (pv 7))) pe_int (fun _ _ => rfl)))
      (pss_one (ps_ret (pe_ifExp (pt_cmpR op_lt (pv 3) pe_int (nomark _)) (pe_cmpR op_ge (pv 2) (pv 5) (nomark _)) (pe_chain op_le op_lt (pv 2) (pv 5) (pe_callB (call_len_k K) (by rfl) T.len_ (by decide +kernel) (pa_cons (pv 4) pa_nil)))))))), ?_⟩
    refine ⟨_, rfl, m, _, rfl, .inl (.inl hm), rfl, _, _, rfl, _, _, rfl, rfl, ?_⟩
    refine ⟨_, rfl, r, rfl, ⟨_, Evl.sq_of hts⟩, fun D hD => ?_⟩
    refine lcP (walk_list (xs := ts)) (fun j => (rows[j]?).bind fun o => if o.1 = n then some (V.int o.2) else none) hD (by omega) (fun H1 e => Evl.sq_of (e _ _ hts)) (fun j x H1 H' Qy Qn hj e y k1 k2 => ?_) fun H1 e1 h1 => ?_
    · obtain ⟨rfl, hx⟩ := y
      obtain ⟨t, n1, c1, rfl, hrow, ht⟩ := hP.at_ j x hx
      refine ⟨t, _, rfl, .inl (.inl (e _ _ ht)), rfl, _, _, rfl, _, _, rfl, rfl, rfl, ?_⟩
      refine ⟨_, rfl, _, rfl, rfl, decide (V.str n1 = V.str n), rfl, ?_⟩
      by_cases z : n1 = n
      · rw [decide_eq_true (by rw [z])]
        refine iteT ⟨_, rfl, k1 _ _ (Evl.Ex.refl _) ?_⟩
        rw [hrow]
        show (if n1 = n then _ else _) = _
        rw [if_pos z]
      · rw [decide_eq_false (fun y => z (by injection y))]
        refine iteF (k2 _ (Evl.Ex.refl _) ?_)
        rw [hrow]
        show (if n1 = n then _ else _) = _
        rw [if_neg z]
    · rw [hlen, range_filter rows _ (fun o => if o.1 = n then some (V.int o.2) else none) fun j y hy => by rw [hy]; rfl, fm_filter rows (fun o => o.1 = n) fun o => V.int o.2] at h1
      obtain ⟨o, ho, hon⟩ := List.mem_map.mp hn
      cases hfil : rows.filter fun o => decide (o.1 = n) with
      | nil =>
        have := List.filter_eq_nil_iff.mp hfil o ho
        exact absurd (decide_eq_true hon) this
      | cons o2 rest =>
        rw [hfil] at h1
        refine ⟨D, _, _, .int o2.2, rfl, rfl, Evl.sq_of h1, atI_nat (j := 0) rfl, ?_⟩
        refine ⟨_, rfl, _, _, rfl, rfl, _, rfl, ?_⟩
        cases decide (k < 2) with
        | true =>
          refine iteT ?_
          exact ⟨_, rfl, _, rfl, _, _, rfl, rfl, q _ _ e1⟩
        | false =>
          refine iteF ?_
          refine ⟨_, rfl, _, rfl, _, _, rfl, rfl, _, rfl, ?_⟩
          cases decide (i ≤ o2.2) with
          | false => exact iteF (q _ _ e1)
          | true =>
            refine iteT ?_
            exact ⟨_, rfl, r, _, rfl, .inl (Evl.sq_of (e1 _ _ hts)), _, _, rfl, rfl, q _ _ e1⟩
end
end K21
/-! ## W20 -/
set_option Elab.async false
set_option linter.all false
set_option maxRecDepth 100000
set_option maxHeartbeats 4000000
/-! A drawn list. -/
namespace K21
open PySem PySem.Spec PyProof.Rows L2
structure OrdIn (H : Hp) (ts : List V) (os : List (Str × Int)) : Prop where
  len : ts.length = os.length
  at_ : ∀ (i : Nat) x, ts[i]? = some x → ∃ t n c, x = .ref t ∧ os[i]? = some (n, c) ∧ H t = some (.tup [.int c, .str n])
theorem OrdIn.ex {H H' : Hp} {ts : List V} {os : List (Str × Int)} (h : OrdIn H ts os) (e : Ex H H') : OrdIn H' ts os :=
  ⟨h.len, fun i x hx => by obtain ⟨t, n, c, h1, h2, h3⟩ := h.at_ i x hx; exact ⟨t, n, c, h1, h2, e _ _ h3⟩⟩
theorem OrdIn.eb {H H' : Hp} {a : Addr} {ts : List V} {os : List (Str × Int)} (h : OrdIn H ts os) (f : FeedAt H a) (e : Eb a H H') : OrdIn H' ts os :=
  ⟨h.len, fun i x hx => by
    obtain ⟨t, n, c, h1, h2, h3⟩ := h.at_ i x hx
    exact ⟨t, n, c, h1, h2, e _ _ (feed_ne f h3 (fun _ _ _ z => by cases z)) h3⟩⟩
theorem OrdIn.rev {H : Hp} {ts : List V} {os : List (Str × Int)} (h : OrdIn H ts os) : OrdIn H ts.reverse os.reverse := by
  refine ⟨by rw [List.length_reverse, List.length_reverse, h.len], fun i x hx => ?_⟩
  have hi : i < ts.length := by have := (List.getElem?_eq_some_iff.mp hx).1; simpa using this
  rw [List.getElem?_reverse hi] at hx
  obtain ⟨t, n, c, h1, h2, h3⟩ := h.at_ _ x hx
  refine ⟨t, n, c, h1, ?_, h3⟩
  rw [List.getElem?_reverse (by rw [← h.len]; exact hi), ← h.len]
  exact h2
/-- any row of such pairs -/
theorem ordin_of {H : Hp} : ∀ (ts : List V), (∀ x ∈ ts, ∃ t n c, x = .ref t ∧ H t = some (.tup [.int c, .str n])) → ∃ os : List (Str × Int), OrdIn H ts os
  | [], _ => ⟨[], rfl, fun i x h => by simp at h⟩
  | x :: r, h => by
    obtain ⟨os, ho⟩ := ordin_of r fun y hy => h y (by simp [hy])
    obtain ⟨t, n, c, h1, h2⟩ := h x (by simp)
    refine ⟨(n, c) :: os, by rw [List.length_cons, List.length_cons, ho.len], fun i y hy => ?_⟩
    cases i with
    | zero => exact ⟨t, n, c, by rw [← h1]; exact (Option.some.inj hy).symm, rfl, h2⟩
    | succ i => exact ho.at_ i y hy
theorem perm_snd {α β : Type} {ps : List (α × β)} {xs : List α} {ds : List β} (h : ps.Perm (xs.zip ds)) (hl : xs.length = ds.length) : (ps.map (·.1)).Perm xs ∧ (ps.map (·.2)).Perm ds := by
  refine ⟨(h.map _).trans (by rw [List.map_fst_zip]; omega), (h.map _).trans (by rw [List.map_snd_zip]; omega)⟩
def tupD (r : Str × Int) : PyData := .tuple [.int r.2, .str r.1]
theorem tupD_inj (a b : Str × Int) (h : tupD a = tupD b) : a = b := by
  unfold tupD at h
  injection h with h
  injection h with h1 h2
  injection h1 with h1
  injection h2 with h2 _
  injection h2 with h2
  exact Prod.ext h2 h1
theorem ordin_data {K : PySem.W.Frag} {H : Hp} {ts : List V} {os : List (Str × Int)} (h : OrdIn H ts os) : DpAll K H ts (os.map tupD) := by
  obtain ⟨hl, hat⟩ := h
  induction ts generalizing os with
  | nil =>
    cases os with
    | nil => exact .nil
    | cons _ _ => simp at hl
  | cons x r ih =>
    cases os with
    | nil => simp at hl
    | cons o os =>
      obtain ⟨t, n, c, h1, h2, h3⟩ := hat 0 x rfl
      cases h2
      subst h1
      refine .cons (.tup (Evl.st_of h3) (.cons (.int c) (.cons (.str n) .nil))) (ih (by simpa using hl) fun i y hy => hat (i + 1) y hy)
theorem itms_set : ∀ {g : Gv Str} {i : Nat} {n : Str}, g[i]? = some none → (itms (g.set i (some n))).Perm (n :: itms g)
  | [], i, n, h => by simp at h
  | o :: r, 0, n, h => by
    have : o = none := by simpa using h
    subst this
    exact List.Perm.refl _
  | o :: r, i + 1, n, h => by
    have ih := itms_set (g := r) (i := i) (n := n) (by simpa using h)
    rw [List.set_cons_succ]
    cases o with
    | none => exact ih
    | some m =>
      show (m :: itms (r.set i (some n))).Perm (n :: m :: itms r)
      exact (List.Perm.cons m ih).trans (List.Perm.swap _ _ _)
theorem itms_all : ∀ {g : Gv Str}, (itms g).length = g.length → none ∉ g
  | [], _ => by simp
  | none :: r, h => by
    have h1 : (itms r).length = r.length + 1 := h
    have := itms_len r
    omega
  | some m :: r, h => by
    have h1 : (m :: itms r).length = r.length + 1 := h
    have := itms_all (g := r) (by simpa using h1)
    simp [this]
/-- an item's place removed -/
theorem eraseIdx_mem {l : List Int} {j : Nat} {z : Int} (h : z ∈ l.eraseIdx j) : z ∈ l := (List.eraseIdx_sublist l j).subset h
def phi (H : Hp) : V → Str × Int
  | .ref t => match H t with
    | some (.tup [.int c, .str n]) => (n, c)
    | _ => ("", 0)
  | _ => ("", 0)
theorem ordin_map {H : Hp} {ts : List V} {os : List (Str × Int)} (h : OrdIn H ts os) : os = ts.map (phi H) := by
  apply List.ext_getElem?
  intro i
  rw [List.getElem?_map]
  cases e : ts[i]? with
  | none =>
    have := List.getElem?_eq_none_iff.mp e
    rw [h.len] at this
    rw [List.getElem?_eq_none this]; rfl
  | some x =>
    obtain ⟨t, n, c, rfl, h2, h3⟩ := h.at_ i x e
    rw [h2]
    show _ = some (phi H (.ref t))
    unfold phi
    simp only [h3]
theorem flat_rep (n : Nat) : (List.replicate n [V.non]).flatten = (List.replicate n (none : Option Str)).map vo := by
  induction n with
  | zero => rfl
  | succ n ih => rw [List.replicate_succ, List.flatten_cons, ih, List.replicate_succ]; rfl
theorem first_at {l : List Int} {z : Int} (h : z ∈ l) (nd : l.Nodup) : ∃ j : Nat, l[j]? = some z ∧ ∀ m : Nat, m < j → l[m]? ≠ some z := by
  obtain ⟨j, hj⟩ := List.mem_iff_getElem?.mp h
  refine ⟨j, hj, fun m hm e => ?_⟩
  have := (List.getElem?_inj (l := l) (i := m) (j := j) (by have := (List.getElem?_eq_some_iff.mp e).1; exact this) nd).mp (e.trans hj.symm)
  omega
def spSomeList : Sp := fun vs H Q _ => ∃ (a m r : Addr) (k : Int) (rows : List (Str × Int)), vs = [.ref a, .ref m] ∧ FeedAt H a ∧ H m = some (.tup [.int k, .ref r]) ∧ RowsAt H r rows ∧ rows.length ≤ 30 ∧
  ∀ q H' (xs : List Str), H q = none → Eb a H H' → FeedAt H' a → H' q = some (.lst (xs.map V.str)) → xs.Perm (rows.map (·.1)) → Q (.ref q) H'
section
variable {P : Program} {w : World} {K : PySem.W.Frag} {mg : Str → Option Value} {base : Heap} {C : Kd → Addr} {CB RC : Addr}
abbrev slaw_some_list : Stmt := top 75
abbrev Nlaw_some_list : List Str := ["_law_feed_here", "_law_model_here", "_law_kind", "_law_rows", "_law_many", "_law_name", "_law_slot", "_law_order", "_law_free", "_law_found", "_law_spot", "_law_fitting"]
theorem sclaw_some_list : FnScope Nlaw_some_list ["_law_feed_here", "_law_model_here"] (defScope slaw_some_list) := ⟨rfl, rfl, rfl, by decide +kernel, rfl, by decide +kernel, by decide +kernel⟩
-- 0 _law_feed_here, 1 _law_model_here*, 2 _law_kind, 3 _law_rows, 4 _law_many, 5 _law_name*, 6 _law_slot, 7 _law_order, 8 _law_free, 9 _law_found, 10 _law_spot, 11 _law_fitting
theorem cal_some_list (F : DF K mg "_law_some_list" slaw_some_list ["_law_feed_here", "_law_model_here"]) (T : Txt K mg C CB RC) (c__law_pick : C8.Cal P w K mg base 1 "_law_pick" spPick []) (c__law_may : C8.Cal P w K mg base 1 "_law_may" spMay []) : C8.Cal P w K mg base 2 "_law_some_list" spSomeList [] := by
  refine F.cal sclaw_some_list (fun vs H Q E h => ?_) (fun f cdv A outer s H vs Q E hr h => ?_)
  · obtain ⟨a, m, r, k, rows, rfl, _⟩ := h
    rfl
  · obtain ⟨a, m, r, k, rows, rfl, hf, hm, hR, few, q⟩ := h
    have hR0 := hR
    obtain ⟨ts, hts, hP⟩ := hR
    have hlen := hP.len
    refine ⟨_, (pss_cons (ps_asg (pv 1) (pg_tup_k K (n := 2) rfl (pgs_cons (pg_name (i := 2) sclaw_some_list.nd rfl (Or.inl rfl)) (pgs_cons (pg_name (i := 3) sclaw_some_list.nd rfl (Or.inl rfl)) pgs_nil))))
      (pss_cons (ps_set (i := 4) sclaw_some_list.nd rfl (Or.inl rfl) (pe_callB (call_len_k K) (by rfl) T.len_ (by decide +kernel) (pa_cons (pv 3) pa_nil)))
      (pss_cons (ps_set (i := 7) sclaw_some_list.nd rfl (Or.inl rfl) (pe_callB (cr_sortedData_k K (hr_u hr)) (by rfl) T.sorted_ (by decide +kernel) (pa_cons (pe_lc (own := [("_law_name", 5), ("_law_slot", 6)]) rfl sclaw_some_list.nd (pi_list_k K (pv 3)) (blkOk_by (N := Nlaw_some_list) (sc := defScope slaw_some_list) (own := [("_law_name", 5), ("_law_slot", 6)]) (by decide +kernel)) (fun _ _ _ _ _ => (pg_tup_k K (n := 2) rfl (pgs_cons (pg_name (i := 5) sclaw_some_list.nd rfl (Or.inl rfl)) (pgs_cons (pg_name (i := 6) sclaw_some_list.nd rfl (Or.inl rfl)) pgs_nil)))) (fun _ _ _ _ _ => pts_nil) (fun _ _ _ _ _ => (pe_tup (pa_cons (pv 6) (pa_cons (pv 5) pa_nil))))) pa_nil)))
      (pss_cons (ps_if (pt_cmpR op_lt (pv 2) pe_int (nomark _)) (pss_one (ps_expr (pe_bm0 PySem.F.plainAttrs_list PySem.F.slot_list_reverse PySem.F.type_list_reverse mt_reverse (pv 7)))) pss_nil)
      (pss_cons (ps_par (i := 8) (j := 9) (by rfl) sclaw_some_list.nd rfl rfl (by decide) rfl rfl (pa_cons (pe_listRg rfl (by rfl) T.list_ (prg_1 (by rfl) T.range_ (pv 4))) (pa_cons (pe_op op_rep (pe_lst (pa_cons pe_non pa_nil)) (pv 4)) pa_nil)) (by rfl))
      (pss_cons (ps_for PassesOwn.never rfl (pi_list_k K (pv 7)) (pg_tup_k K (n := 2) rfl (pgs_cons (pg_name (i := 6) sclaw_some_list.nd rfl (Or.inl rfl)) (pgs_cons (pg_name (i := 5) sclaw_some_list.nd rfl (Or.inr rfl)) pgs_nil))) (pss_cons (ps_setLc (i := 11) (own := [("_law_spot", 10)]) rfl sclaw_some_list.nd rfl rfl (sw_true rfl rfl rfl (by decide +kernel)) (pi_list_k K (pv 8)) (blkOk_by (N := Nlaw_some_list) (sc := defScope slaw_some_list) (own := [("_law_spot", 10)]) (by decide +kernel)) (fun _ _ _ _ _ => (pg_name (i := 10) sclaw_some_list.nd rfl (Or.inl rfl))) (fun _ _ _ _ _ => (pts_one (pt_val (C8.pe_c c__law_may hr (by decide) (by rfl) (pa_cons (pv 1) (pa_cons (pv 5) (pa_cons (pv 10) pa_nil))))))) (fun _ _ _ _ _ => (pv 10)))
      (pss_cons (ps_set (i := 10) sclaw_some_list.nd rfl (Or.inl rfl) (pe_ix (ix_list_k K) (pe_op op_cat (pv 11) (pv 8)) (C8.pe_c c__law_pick hr (by decide) (by rfl) (pa_cons (pv 0) (pa_cons (pe_callB (call_max2 rfl) (by rfl) T.max_ (by decide +kernel) (pa_cons pe_int (pa_cons (pe_callB (call_len_k K) (by rfl) T.len_ (by decide +kernel) (pa_cons (pv 11) pa_nil)) pa_nil))) pa_nil))) (fun _ _ => rfl)))
      (pss_cons (ps_asg (pv 5) (pg_sub (pv 9) (pv 10) set_list))
      (pss_one (ps_expr (pe_bm_k K PySem.F.plainAttrs_list PySem.F.slot_list_remove PySem.F.type_list_remove mt_remove (pv 8) (pa_cons (pv 10) pa_nil))))))))
      (pss_one (ps_ret (pv 9))))))))), ?_⟩
    refine ⟨_, rfl, m, _, rfl, .inl (.inl hm), rfl, _, _, rfl, _, _, rfl, rfl, ?_⟩
    refine ⟨_, rfl, r, _, rfl, .inl (Evl.sq_of hts), ?_⟩
    refine ⟨_, rfl, r, rfl, ⟨_, Evl.sq_of hts⟩, fun D hD => ?_⟩
    refine lcA (walk_list (xs := ts)) (fun i acc H1 => OrdIn H1 acc (rows.take i)) hD (by omega) (fun H1 e => Evl.sq_of (e _ _ hts)) ⟨rfl, fun i x h => by simp at h⟩ (fun i acc H1 h => ?_) (fun i acc H1 H2 h e => h.ex e) (fun i x H1 H' acc Qy Qn hi e hacc hA y k1 k2 => ?_) fun H1 acc e1 h1 hA => ?_
    · rw [h.len, List.length_take]; omega
    · obtain ⟨rfl, hx⟩ := y
      obtain ⟨t, n, c, rfl, hrow, ht⟩ := hP.at_ i x hx
      refine ⟨t, _, rfl, .inl (.inl (e _ _ ht)), rfl, _, _, rfl, _, _, rfl, rfl, rfl, ?_⟩
      refine iteT (B := Qn H') ?_
      refine ⟨_, rfl, _, rfl, (by show 2 ≤ sizeLine; decide), fun u hu => ?_⟩
      have eu : Ex H' (upd H' u (.tup [.int c, .str n])) := Evl.Ex.new hu
      have nDu : u ≠ D := fun z => by rw [z, hacc] at hu; cases hu
      refine k1 _ _ eu ?_
      have htk : rows.take (i + 1) = rows.take i ++ [(n, c)] := by rw [List.take_add_one, hrow]; rfl
      refine ⟨by rw [htk, List.length_append, List.length_append, hA.len]; rfl, fun j v hv => ?_⟩
      by_cases z : j < acc.length
      · rw [List.getElem?_append_left z] at hv
        obtain ⟨t2, n2, c2, w1, w2, w3⟩ := hA.at_ j v hv
        exact ⟨t2, n2, c2, w1, by rw [htk, List.getElem?_append_left (by rw [← hA.len]; exact z)]; exact w2, del_ex eu _ _ w3⟩
      · have z2 : j = acc.length := by
          have := (List.getElem?_eq_some_iff.mp hv).1
          simp at this; omega
        subst z2
        rw [List.getElem?_append_right (Nat.le_refl _)] at hv
        simp at hv
        refine ⟨u, n, c, hv.symm, by rw [htk, hA.len, List.getElem?_append_right (Nat.le_refl _)]; simp, ?_⟩
        rw [del_ne nDu, upd_same]
    have hA1 : OrdIn H1 acc rows := by
      have := hA.ex del_sub
      rwa [hlen, List.take_length] at this
    have accl : acc.length ≤ 30 := by rw [hA1.len]; exact few
    refine ⟨D, acc, rows.map tupD, rfl, Evl.sq_of h1, ordin_data hA1, PySem.W.AllAlike.of (fun b b' => by simp [tupD, PySem.W.alike, PySem.W.alikeAll]), PySem.W.Sortable.tuples (fun b => ⟨_, _, rfl⟩), (fun d hd => ?_), by omega, fun ps O hps _ hO => ?_⟩
    · obtain ⟨b, _, rfl⟩ := List.mem_map.mp hd
      simp [tupD, PyData.depth, PyData.depthAll]
    obtain ⟨pp1, pp2⟩ := perm_snd hps (by rw [List.length_map]; exact hA1.len)
    have eO : Ex H1 (upd H1 O (.lst (ps.map (·.1)))) := Evl.Ex.new hO
    obtain ⟨ord, hord⟩ := ordin_of (H := upd H1 O (.lst (ps.map (·.1)))) (ps.map (·.1)) fun x hx => by
      obtain ⟨i, hi⟩ := List.mem_iff_getElem?.mp (pp1.mem_iff.mp hx)
      obtain ⟨t, n, c, w1, _, w3⟩ := hA1.at_ i x hi
      exact ⟨t, n, c, w1, eO _ _ w3⟩
    have hop : ord.Perm rows := by
      rw [ordin_map hord, ordin_map (hA1.ex eO)]
      exact pp1.map _
    have hO2 : upd H1 O (.lst (ps.map (·.1))) O = some (.lst (ps.map (·.1))) := upd_same
    have hOH : H O = none := Evl.fresh_back e1 hO
    have e02 := e1.trans eO
    generalize upd H1 O (.lst (ps.map (·.1))) = H2 at hord hO2 e02 eO ⊢
    refine ⟨_, rfl, _, _, rfl, rfl, _, rfl, ?_⟩
    apply ite_join (fun σ H3 => ∃ (us : List V) (os : List (Str × Int)), σ = [some (.ref a), some (.ref m), some (.int k), some (.ref r), some (.int (ts.length : Nat)), none, none, some (.ref O), none, none, none, none] ∧ Ex H H3 ∧ H3 O = some (.lst us) ∧ OrdIn H3 us os ∧ os.Perm rows)
    rotate_left 1
    · intro _ key
      exact key _ _ ⟨_, ord, rfl, e02, hO2, hord, hop⟩
    · rintro σ H3 ⟨us, os, rfl, e3, hus, hos, hosp⟩
      have hf3 := hf.ex e3
      have ol : os.length = rows.length := hosp.length_eq
      have ul : us.length = rows.length := by rw [hos.len]; exact ol
      refine ⟨_, rfl, _, rfl, ⟨by omega, by omega, by omega, by omega, by omega⟩, fun FR hFR => ?_⟩
      have eF : Ex H3 (upd H3 FR (.lst (rgV 0 ((ts.length : Nat) : Int)))) := Evl.Ex.new hFR
      have gF : upd H3 FR (.lst (rgV 0 ((ts.length : Nat) : Int))) FR = some (.lst (((List.range ts.length).map fun i : Nat => (i : Int)).map V.int)) := by
        rw [upd_same]
        unfold rgV
        rw [List.map_map]
        refine congrArg (fun z => some (HO.lst z)) ?_
        rw [Int.sub_zero, Int.toNat_natCast]
        refine List.map_congr_left fun i _ => ?_
        show V.int (0 + _) = V.int _
        rw [Int.zero_add]
      generalize upd H3 FR (.lst (rgV 0 ((ts.length : Nat) : Int))) = H4 at eF gF ⊢
      refine ⟨(by show 1 ≤ sizeLine; decide), fun z1 hz1 => ?_⟩
      have eZ : Ex H4 (upd H4 z1 (.lst [V.non])) := Evl.Ex.new hz1
      refine ⟨_, rfl, z1, _, _, rfl, rfl, upd_same, by omega, by omega, ?_, fun FA hFA => ⟨_, _, rfl, ?_⟩⟩
      · rw [Int.toNat_natCast]
        show 1 * ts.length ≤ sizeLine
        exact Nat.le_trans (by omega : 1 * ts.length ≤ 30) (by decide)
      have eA : Ex (upd H4 z1 (.lst [V.non])) (upd (upd H4 z1 (.lst [V.non])) FA (.lst (List.replicate ((ts.length : Nat) : Int).toNat [V.non]).flatten)) := Evl.Ex.new hFA
      have gA : upd (upd H4 z1 (.lst [V.non])) FA (.lst (List.replicate ((ts.length : Nat) : Int).toNat [V.non]).flatten) FA = some (.lst ((List.replicate ts.length (none : Option Str)).map vo)) := by
        rw [upd_same, Int.toNat_natCast, flat_rep]
      generalize upd (upd H4 z1 (.lst [V.non])) FA (.lst (List.replicate ((ts.length : Nat) : Int).toNat [V.non]).flatten) = H5 at eA gA ⊢
      have e35 := eF.trans (eZ.trans eA)
      have e05 := e3.trans e35
      have hf5 := hf.ex e05
      have hFRH : H FR = none := Evl.fresh_back e3 hFR
      have hFAH : H FA = none := Evl.fresh_back (e3.trans (eF.trans eZ)) hFA
      have nFF : FR ≠ FA := fun z => by have := eZ _ _ gF; rw [z, hFA] at this; cases this
      have gF5 := (eZ.trans eA) _ _ gF
      have us5 := e35 _ _ hus
      have naFR := feed_some hf hFRH
      have naFA := feed_some hf hFAH
      have nO1 : O ≠ FR := fun z => by rw [← z, hus] at hFR; cases hFR
      have nO2 : O ≠ FA := fun z => by have := (eF.trans eZ) _ _ hus; rw [z, hFA] at this; cases this
      have naO : a ≠ O := feed_some hf hOH
      have nm : m ≠ a := feed_ne hf hm (fun _ _ _ z => by cases z)
      have hos5 := hos.ex e35
      -- all but three keep
      refine ⟨_, rfl, O, rfl, ⟨_, Evl.sq_of us5⟩, for_it (walk_list (xs := us)) (fun i σ H6 => ∃ (y5 y6 y10 y11 : Option V) (F : List Int) (x : Gv Str), σ = [some (.ref a), some (.ref m), some (.int k), some (.ref r), some (.int (ts.length : Nat)), y5, y6, some (.ref O), some (.ref FR), some (.ref FA), y10, y11] ∧
          (∀ b o, b ≠ a → b ≠ FR → b ≠ FA → H5 b = some o → H6 b = some o) ∧ FeedAt H6 a ∧ H6 FR = some (.lst (F.map V.int)) ∧ F.length + i = ts.length ∧ F.Nodup ∧ (∀ z ∈ F, ∃ j : Nat, z = j ∧ x[j]? = some none) ∧ H6 FA = some (.lst (x.map vo)) ∧ x.length = ts.length ∧ (itms x).Perm ((os.take i).map (·.1)))
        ⟨none, none, none, none, _, List.replicate ts.length none, rfl, fun b o _ _ _ h => h, hf5, gF5, by simp, ?_, ?_, gA, by simp, ?_⟩ (fun i σ H6 _ P => ?_) (fun i v σ H6 H' hi P y => ?_) fun σ H6 P => ?_⟩
      · exact List.Pairwise.map _ (fun a b h e => h (by omega)) List.nodup_range
      · intro z hz
        obtain ⟨j, hj, rfl⟩ := List.mem_map.mp hz
        refine ⟨j, rfl, ?_⟩
        rw [List.getElem?_replicate, if_pos (List.mem_range.mp hj)]
      · have : itms (List.replicate ts.length (none : Option Str)) = [] := by
          unfold itms
          rw [List.filterMap_replicate]; rfl
        rw [this, List.take_zero]; exact List.Perm.refl _
      · obtain ⟨_, _, _, _, _, _, _, hk, _⟩ := P
        exact Evl.sq_of (hk _ _ naO.symm nO1 nO2 us5)
      · obtain ⟨y5, y6, y10, y11, F, x, rfl, hk, hf6, hFR6, hFl, hFn, hFx, hFA6, hxl, hitp⟩ := P
        obtain ⟨rfl, hv⟩ := y
        obtain ⟨t, n, c, rfl, hrow, ht5⟩ := hos5.at_ i v hv
        have hi' : i < us.length := hi
        have tne : ∀ b (l : List V), H5 b = some (.lst l) → t ≠ b := fun b l hb z => by rw [z, hb] at ht5; cases ht5
        have ht6 := hk _ _ (feed_ne hf5 ht5 (fun _ _ _ z => by cases z)) (tne _ _ gF5) (tne _ _ gA) ht5
        have eb6 : Eb a H H' := fun b o nb h => hk b o nb (ne_of_none h hFRH) (ne_of_none h hFAH) (e05 _ _ h)
        have hR6 := hR0.eb hf eb6
        have hm6 := eb6 _ _ nm hm
        have hnm : n ∈ rows.map (·.1) := (hosp.map _).mem_iff.mp (List.mem_map.mpr ⟨(n, c), List.mem_of_getElem? hrow, rfl⟩)
        refine ⟨t, _, rfl, .inl (.inl ht6), rfl, _, _, rfl, _, _, rfl, rfl, ?_⟩
        refine ⟨_, rfl, FR, rfl, ⟨_, Evl.sq_of hFR6⟩, fun L hL => ?_⟩
        refine lcA (walk_list (xs := F.map V.int)) (fun i acc _ => ∃ l : List Int, acc = l.map V.int ∧ l.length ≤ i ∧ ∀ z ∈ l, z ∈ F) hL (by rw [List.length_map]; omega) (fun H1 e => Evl.sq_of (e _ _ hFR6)) ⟨[], rfl, Nat.le_refl _, fun z h => by cases h⟩ (fun i acc H1 h => ?_) (fun i acc H1 H2 h e => h) (fun j x2 H1 H2 acc Qy Qn hj e hacc hA y k1 k2 => ?_) fun H7 acc e7 h7 hA => ?_
        · obtain ⟨l, rfl, h1, _⟩ := h
          rw [List.length_map]; exact h1
        · obtain ⟨rfl, hx2⟩ := y
          obtain ⟨l, rfl, hl1, hl2⟩ := hA
          rw [List.getElem?_map] at hx2
          obtain ⟨z, hz, rfl⟩ := Option.map_eq_some_iff.mp hx2
          refine ⟨rfl, ?_⟩
          refine ⟨_, rfl, _, rfl, _, rfl, m, r, k, n, z, rows, rfl, e _ _ hm6, hR6.ex e, few, hnm, fun b H3 e3 => ⟨b, rfl, ?_⟩⟩
          cases b with
          | true =>
            refine iteT ⟨_, rfl, k1 _ _ e3 ⟨l ++ [z], by rw [List.map_append]; rfl, by rw [List.length_append]; show l.length + 1 ≤ j + 1; omega, fun y hy => ?_⟩⟩
            rcases List.mem_append.mp hy with hy | hy
            · exact hl2 y hy
            · have : y = z := by simpa using hy
              rw [this]; exact List.mem_of_getElem? hz
          | false => exact iteF (k2 _ e3 ⟨l, rfl, by omega, hl2⟩)
        obtain ⟨l, rfl, hl1, hl2⟩ := hA
        rw [List.length_map] at hl1
        have hL7 : H7 L = some (.lst (l.map V.int)) := h7
        have hFR7 := e7 _ _ hFR6
        have Fpos : 0 < F.length := by omega
        refine ⟨_, rfl, _, rfl, L, FR, _, _, rfl, rfl, hL7, hFR7, ?_, fun W hW => ?_⟩
        · rw [List.length_map, List.length_map]
          exact Nat.le_trans (by omega : l.length + F.length ≤ 60) (by decide)
        have e8 : Ex H7 (upd H7 W (.lst (l.map V.int ++ F.map V.int))) := Evl.Ex.new hW
        have gW : upd H7 W (.lst (l.map V.int ++ F.map V.int)) W = some (.lst ((l ++ F).map V.int)) := by rw [upd_same, List.map_append]
        have hf7 := hf6.ex e7
        have naW : a ≠ W := feed_some hf7 hW
        generalize upd H7 W (.lst (l.map V.int ++ F.map V.int)) = H8 at e8 gW ⊢
        have hf8 := hf7.ex e8
        refine ⟨_, rfl, _, rfl, L, _, rfl, .inl (Evl.sq_of (e8 _ _ hL7)), _, _, rfl, a, _, rfl, hf8, ?_, ?_, fun p H9 e9 hf9 p0 p1 => ?_⟩
        · split <;> omega
        · refine small_le ?_
          rw [List.length_map]
          split <;> omega
        rw [List.length_map] at p1
        obtain ⟨pn, rfl⟩ := Int.eq_ofNat_of_zero_le p0
        have hpn : pn < (l ++ F).length := by
          rw [List.length_append]
          split at p1 <;> omega
        have hge := List.getElem?_eq_getElem hpn
        have hzF : (l ++ F)[pn] ∈ F := by
          rcases List.mem_append.mp (List.getElem_mem hpn) with h | h
          · exact hl2 _ h
          · exact h
        generalize (l ++ F)[pn] = z at hge hzF
        refine ⟨W, _, _, .int z, rfl, rfl, Evl.sq_of (e9 _ _ naW.symm gW), atI_nat (by rw [List.getElem?_map, hge]; rfl), ?_⟩
        obtain ⟨j, rfl, hxj⟩ := hFx z hzF
        have hjl := (List.getElem?_eq_some_iff.mp hxj).1
        have e69 : Eb a H' H9 := (Eb.ofEx (e7.trans e8)).trans e9
        have hFA9 := e69 _ _ naFA.symm hFA6
        have hFR9 := e69 _ _ naFR.symm hFR6
        refine ⟨_, rfl, _, rfl, _, rfl, FA, _, _, j, rfl, rfl, hFA9, ixN_nat (by rw [List.length_map]; exact hjl), ?_⟩
        obtain ⟨jj, hjj, hfirst⟩ := first_at hzF hFn
        have hFR10 : (upd H9 FA (.lst ((x.map vo).set j (.str n)))) FR = some (.lst (F.map V.int)) := by rw [upd_ne nFF]; exact hFR9
        refine ⟨_, rfl, .inl ⟨rfl, _, Evl.sq_of hFR10⟩, _, rfl, FR, F, _, jj, rfl, rfl, hFR10, hjj, hfirst, ?_⟩
        have hjl2 := (List.getElem?_eq_some_iff.mp hjj).1
        refine ⟨_, _, _, _, F.eraseIdx jj, x.set j (some n), rfl, fun b o n1 n2 n3 h => ?_, feed_mut (feed_mut hf9 naFA) naFR, upd_same, ?_, ?_, fun z2 hz2 => ?_, ?_, ?_, ?_⟩
        · rw [upd_ne n2, upd_ne n3]
          exact e69 _ _ n1 (hk b o n1 n2 n3 h)
        · rw [List.length_eraseIdx_of_lt hjl2]; omega
        · exact hFn.sublist (List.eraseIdx_sublist _ _)
        · obtain ⟨i2, hi2, hg2⟩ := List.mem_eraseIdx_iff_getElem?.mp hz2
          obtain ⟨j2, rfl, hx2⟩ := hFx z2 (List.mem_of_getElem? hg2)
          refine ⟨j2, rfl, ?_⟩
          have : j ≠ j2 := fun q => by
            subst q
            exact hi2 ((List.getElem?_inj (l := F) (i := i2) (j := jj) (List.getElem?_eq_some_iff.mp hg2).1 hFn).mp (hg2.trans hjj.symm))
          rw [List.getElem?_set_ne this]; exact hx2
        · rw [upd_ne (fun q => nFF q.symm), upd_same, List.map_set]; rfl
        · rw [List.length_set]; exact hxl
        · rw [List.take_add_one, hrow, List.map_append]
          refine (itms_set hxj).trans ?_
          refine (List.Perm.cons n hitp).trans ?_
          exact (List.perm_append_singleton n _).symm
      · obtain ⟨y5, y6, y10, y11, F, x, rfl, hk, hf6, hFR6, hFl, hFn, hFx, hFA6, hxl, hitp⟩ := P
        have htk : os.take us.length = os := by rw [ul, ← ol, List.take_length]
        rw [htk] at hitp
        have hi2 : (itms x).length = x.length := by rw [hitp.length_eq, List.length_map, ol, hxl, hlen]
        have hx := itms_map (itms_all hi2)
        refine ⟨_, rfl, q FA H6 (itms x) hFAH (fun b o nb h => ?_) hf6 ?_ (hitp.trans (hosp.map _))⟩
        · exact hk b o nb (ne_of_none h hFRH) (ne_of_none h hFAH) (e05 _ _ h)
        · rw [hFA6, ← hx, vo_some, itms_some]
    · intro _ key
      refine ⟨_, rfl, .inl ⟨rfl, _, Evl.sq_of hO2⟩, O, _, rfl, rfl, hO2, key _ _ ⟨_, ord.reverse, rfl, Evl.Ex.mut e02 hOH, upd_same, ⟨hord.rev.len, fun i x hx => ?_⟩, (List.reverse_perm _).trans hop⟩⟩
      obtain ⟨t, n, c, w1, w2, w3⟩ := hord.rev.at_ i x hx
      exact ⟨t, n, c, w1, w2, by rw [upd_ne (fun z => by rw [z, hO2] at w3; cases w3)]; exact w3⟩
end
end K21
/-! ## W21 -/
set_option Elab.async false
set_option linter.all false
set_option maxRecDepth 100000
set_option maxHeartbeats 4000000
/-! Seen lists drawn. -/
namespace K21
open PySem PySem.Spec PyProof.Rows L2
theorem five_at {j : Int} (h0 : 0 ≤ j) (h1 : j < 5) : ∃ s : Int, atI [V.int 0, V.int 1, V.int 2, V.int 4, V.int 5] j = some (.int s) := by
  have : j = 0 ∨ j = 1 ∨ j = 2 ∨ j = 3 ∨ j = 4 := by omega
  rcases this with rfl | rfl | rfl | rfl | rfl
  · exact ⟨_, atI_nat (j := 0) rfl⟩
  · exact ⟨_, atI_nat (j := 1) rfl⟩
  · exact ⟨_, atI_nat (j := 2) rfl⟩
  · exact ⟨_, atI_nat (j := 3) rfl⟩
  · exact ⟨_, atI_nat (j := 4) rfl⟩
theorem gok_self {xs : List Str} (h : xs.Nodup) : Gok xs (xs.map some) := by
  refine ⟨by rw [List.length_map], fun n hn => ?_, fun i j n hi hj => ?_⟩
  · obtain ⟨m, hm, e⟩ := List.mem_map.mp hn
    cases e; exact hm
  · obtain ⟨a, ha, ea⟩ := map_some_get hi
    obtain ⟨b, hb, eb⟩ := map_some_get hj
    cases ea; cases eb
    exact (List.getElem?_inj (l := xs) (i := i) (j := j) (List.getElem?_eq_some_iff.mp ha).1 h).mp (ha.trans hb.symm)
theorem sok_of {rows : List (Str × Int)} {xs : List Str} {g : Gv Str} (nd : (rows.map (·.1)).Nodup) (hp : xs.Perm (rows.map (·.1))) (hl : g.length = xs.length) (hs : ∀ (j : Nat) o, g[j]? = some o → o = none ∨ o = xs[j]?) : Sok rows g := by
  have xnd : xs.Nodup := hp.nodup_iff.mpr nd
  have ok : Gok xs g := gok_sub (gok_self xnd) (by rw [hl, List.length_map]) fun j n hj => by
    rcases hs j _ hj with h | h
    · cases h
    · rw [List.getElem?_map, ← h]; rfl
  exact ⟨by rw [hl, hp.length_eq, List.length_map], fun n hn => hp.mem_iff.mp (ok.mem n hn), itms_nodup ok⟩
def spSights : Sp := fun vs H Q _ => ∃ (a m r : Addr) (k : Int) (rows : List (Str × Int)), vs = [.ref a, .ref m] ∧ FeedAt H a ∧ H m = some (.tup [.int k, .ref r]) ∧ RowsAt H r rows ∧ RowsOk rows ∧
  ∀ q H' (g : Gv Str), H q = none → Eb a H H' → FeedAt H' a → H' q = some (.lst (g.map vo)) → Sok rows g → Q (.ref q) H'
section
variable {P : Program} {w : World} {K : PySem.W.Frag} {mg : Str → Option Value} {base : Heap} {C : Kd → Addr} {CB RC : Addr}
abbrev slaw_sights : Stmt := top 74
abbrev Nlaw_sights : List Str := ["_law_feed_here", "_law_model_here", "_law_names_here", "_law_row", "_law_share_here", "_law_found", "_law_name", "_law_slot"]
theorem sclaw_sights : FnScope Nlaw_sights ["_law_feed_here", "_law_model_here"] (defScope slaw_sights) := ⟨rfl, rfl, rfl, by decide +kernel, rfl, by decide +kernel, by decide +kernel⟩
-- 0 _law_feed_here*, 1 _law_model_here, 2 _law_names_here, 3 _law_row, 4 _law_share_here*, 5 _law_found, 6 _law_name, 7 _law_slot
theorem cal_sights (F : DF K mg "_law_sights" slaw_sights ["_law_feed_here", "_law_model_here"]) (T : Txt K mg C CB RC) (c__law_pick : C8.Cal P w K mg base 1 "_law_pick" spPick []) (c__law_shuffle : C8.Cal P w K mg base 2 "_law_shuffle" spShuffle []) (c__law_some_list : C8.Cal P w K mg base 2 "_law_some_list" spSomeList []) : C8.Cal P w K mg base 3 "_law_sights" spSights [] := by
  refine F.cal sclaw_sights (fun vs H Q E h => ?_) (fun f cdv A outer s H vs Q E hr h => ?_)
  · obtain ⟨a, m, r, k, rows, rfl, _⟩ := h
    rfl
  · obtain ⟨a, m, r, k, rows, rfl, hf, hm, hR, ok, q⟩ := h
    have hR0 := hR
    obtain ⟨ts, hts, hP⟩ := hR
    have hlen := hP.len
    have few := ok.few
    refine ⟨_, (pss_cons (ps_setLc (i := 2) (own := [("_law_name", 6), ("_law_slot", 7)]) rfl sclaw_sights.nd rfl rfl (sw_true rfl rfl rfl (by decide +kernel)) (pi_list_k K (pe_ix (ix_tup_k K) (pv 1) pe_int (fun _ _ => rfl))) (blkOk_by (N := Nlaw_sights) (sc := defScope slaw_sights) (own := [("_law_name", 6), ("_law_slot", 7)]) (by decide +kernel)) (fun _ _ _ _ _ => (pg_tup_k K (n := 2) rfl (pgs_cons (pg_name (i := 6) sclaw_sights.nd rfl (Or.inl rfl)) (pgs_cons (pg_name (i := 7) sclaw_sights.nd rfl (Or.inl rfl)) pgs_nil)))) (fun _ _ _ _ _ => pts_nil) (fun _ _ _ _ _ => (pv 6)))
      (pss_cons (ps_asg (pe_tup (pa_cons (C8.pe_c c__law_shuffle hr (by decide) (by rfl) (pa_cons (pv 0) (pa_cons (pv 2) pa_nil))) (pa_cons (pe_ix (ix_list_k K) (pe_lst (pa_cons pe_int (pa_cons pe_int (pa_cons pe_int (pa_cons pe_int (pa_cons pe_int pa_nil)))))) (C8.pe_c c__law_pick hr (by decide) (by rfl) (pa_cons (pv 0) (pa_cons pe_int pa_nil))) (fun _ _ => rfl)) pa_nil))) (pg_tup_k K (n := 2) rfl (pgs_cons (pg_name (i := 3) sclaw_sights.nd rfl (Or.inl rfl)) (pgs_cons (pg_name (i := 4) sclaw_sights.nd rfl (Or.inr rfl)) pgs_nil))))
      (pss_cons (ps_if (pt_cmpR op_gt (C8.pe_c c__law_pick hr (by decide) (by rfl) (pa_cons (pv 0) (pa_cons pe_int pa_nil))) pe_int (nomark _)) (pss_one (ps_set (i := 3) sclaw_sights.nd rfl (Or.inl rfl) (C8.pe_c c__law_some_list hr (by decide) (by rfl) (pa_cons (pv 0) (pa_cons (pv 1) pa_nil))))) pss_nil)
      (pss_cons (ps_setLc (i := 5) (own := [("_law_name", 6)]) rfl sclaw_sights.nd rfl rfl (sw_true rfl rfl rfl (by decide +kernel)) (pi_list_k K (pv 3)) (blkOk_by (N := Nlaw_sights) (sc := defScope slaw_sights) (own := [("_law_name", 6)]) (by decide +kernel)) (fun _ _ _ _ _ => (pg_name (i := 6) sclaw_sights.nd rfl (Or.inl rfl))) (fun _ _ _ _ _ => pts_nil) (fun _ _ _ _ _ => (pe_ix (ix_list_k K) (pe_lst (pa_cons pe_non (pa_cons (pv 6) pa_nil))) (pe_callTy call_int1 (by rfl) T.int_ (by decide +kernel) (pa_cons (pe_cmpR op_lt (C8.pe_c c__law_pick hr (by decide) (by rfl) (pa_cons (pv 0) (pa_cons pe_int pa_nil))) (pv 4) (nomark _)) pa_nil)) (fun _ _ => rfl))))
      (pss_one (ps_ret (pv 5))))))), ?_⟩
    refine ⟨_, rfl, m, _, _, .ref r, rfl, rfl, .inl (.inl hm), atI_nat (j := 1) rfl, r, rfl, ⟨_, Evl.sq_of hts⟩, fun D hD => ?_⟩
    refine lcP (walk_list (xs := ts)) (fun i => (rows[i]?).map fun o => V.str o.1) hD (by omega) (fun H1 e => Evl.sq_of (e _ _ hts)) (fun i x H1 H' Qy Qn hi e y k1 k2 => ?_) fun H1 e1 h1 => ?_
    · obtain ⟨rfl, hx⟩ := y
      obtain ⟨t, n, c, rfl, hrow, ht⟩ := hP.at_ i x hx
      refine ⟨t, _, rfl, .inl (.inl (e _ _ ht)), rfl, _, _, rfl, _, _, rfl, rfl, rfl, ?_⟩
      refine iteT (B := Qn H') ⟨_, rfl, k1 _ _ (Evl.Ex.refl _) ?_⟩
      rw [hrow]; rfl
    have eS : (List.range ts.length).filterMap (fun i => (rows[i]?).map fun o => V.str o.1) = (rows.map (·.1)).map V.str := by
      rw [hlen, List.map_map]
      exact range_get rows _ _ fun i x hx => by rw [hx]; rfl
    rw [eS] at h1
    have hf1 := hf.ex e1
    have naD : a ≠ D := feed_some hf hD
    refine ⟨_, rfl, _, rfl, a, D, _, rfl, hf1, naD.symm, h1, by simp; omega, fun S H2 ys hS e2 hf2 h2 hys => ?_⟩
    obtain ⟨xs, rfl, hxs⟩ := perm_strs hys
    have hSH : H S = none := Evl.fresh_back e1 hS
    have naS : a ≠ S := feed_some hf hSH
    refine ⟨(by show 5 ≤ sizeLine; decide), fun l1 hl1 => ?_⟩
    have e3 : Ex H2 (upd H2 l1 (.lst [V.int 0, V.int 1, V.int 2, V.int 4, V.int 5])) := Evl.Ex.new hl1
    have g3 : upd H2 l1 (.lst [V.int 0, V.int 1, V.int 2, V.int 4, V.int 5]) l1 = some (.lst [V.int 0, V.int 1, V.int 2, V.int 4, V.int 5]) := upd_same
    have n1 : a ≠ l1 := feed_some hf2 hl1
    generalize upd H2 l1 (.lst [V.int 0, V.int 1, V.int 2, V.int 4, V.int 5]) = H3 at e3 g3 ⊢
    have hf3 := hf2.ex e3
    refine ⟨_, rfl, a, 5, rfl, hf3, by omega, small_le (by omega), fun j H4 e4 hf4 j0 j1 => ?_⟩
    obtain ⟨sh, hsh⟩ := five_at j0 j1
    refine ⟨l1, _, _, _, rfl, rfl, Evl.sq_of (e4 _ _ n1.symm g3), hsh, (by show 2 ≤ sizeLine; decide), fun u hu => ?_⟩
    have e04 := (((Eb.ofEx (a := a) e1).trans e2).trans (Eb.ofEx e3)).trans e4
    have h4 := ((Eb.ofEx e3).trans e4) _ _ naS.symm h2
    have eu : Ex H4 (upd H4 u (.tup [.ref S, .int sh])) := Evl.Ex.new hu
    have gu : upd H4 u (.tup [.ref S, .int sh]) u = some (.tup [.ref S, .int sh]) := upd_same
    generalize upd H4 u (.tup [.ref S, .int sh]) = H4b at eu gu ⊢
    replace e04 := e04.trans (Eb.ofEx eu)
    replace h4 := eu _ _ h4
    replace hf4 := hf4.ex eu
    refine ⟨u, _, rfl, .inl (.inl gu), rfl, _, _, rfl, _, _, rfl, rfl, ?_⟩
    refine ⟨_, rfl, a, 3, rfl, hf4, by omega, small_le (by omega), fun p H5 e5 hf5 p0 p1 => ?_⟩
    have e05 := e04.trans e5
    have h5 := e5 _ _ naS.symm h4
    refine ⟨_, _, rfl, rfl, _, rfl, ?_⟩
    apply ite_join (fun σ H6 => ∃ (S : Addr) (xs : List Str), σ = [some (.ref a), some (.ref m), some (.ref D), some (.ref S), some (.int sh), none, none, none] ∧ Eb a H H6 ∧ FeedAt H6 a ∧ S ≠ a ∧ H6 S = some (.lst (xs.map V.str)) ∧ xs.Perm (rows.map (·.1)))
    rotate_left 1
    · intro _ key
      exact key _ _ ⟨S, xs, rfl, e05, hf5, naS.symm, h5, hxs⟩
    · rintro σ H6 ⟨S, xs, rfl, e6, hf6, nS, h6, hxs⟩
      have xl : xs.length = rows.length := by rw [hxs.length_eq, List.length_map]
      refine ⟨_, rfl, S, rfl, ⟨_, Evl.sq_of h6⟩, fun G hG => ?_⟩
      have naG : a ≠ G := feed_some hf6 hG
      have nGS : S ≠ G := fun z => by rw [← z, h6] at hG; cases hG
      refine lc_it (walk_list (xs := xs.map V.str)) (fun i H' => (∀ b o, b ≠ a → b ≠ G → H6 b = some o → H' b = some o) ∧ FeedAt H' a ∧ ∃ g : Gv Str, H' G = some (.lst (g.map vo)) ∧ g.length = i ∧ ∀ (j : Nat) o, g[j]? = some o → o = none ∨ o = xs[j]?)
        ⟨fun b o _ n h => by rw [upd_ne n]; exact h, feed_mut hf6 naG, [], upd_same, rfl, fun j o h => by simp at h⟩ (fun i H' _ P => Evl.sq_of (P.1 _ _ nS nGS h6)) (fun i x H7 H' hi P y => ?_) fun H7 P => ?_
      · obtain ⟨hk, hf7, g, hg, gl, hgs⟩ := P
        obtain ⟨rfl, hx⟩ := y
        rw [List.getElem?_map] at hx
        obtain ⟨n, hn, rfl⟩ := Option.map_eq_some_iff.mp hx
        have hi' : i < xs.length := by simpa using hi
        refine ⟨rfl, yes_if ?_⟩
        refine ⟨_, rfl, (by show 2 ≤ sizeLine; decide), fun l2 hl2 => ?_⟩
        have e8 : Ex H' (upd H' l2 (.lst [V.non, V.str n])) := Evl.Ex.new hl2
        have g8 : upd H' l2 (.lst [V.non, V.str n]) l2 = some (.lst [V.non, V.str n]) := upd_same
        have n2 : a ≠ l2 := feed_some hf7 hl2
        have nG2 : G ≠ l2 := fun z => by rw [← z, hg] at hl2; cases hl2
        generalize upd H' l2 (.lst [V.non, V.str n]) = H8 at e8 g8 ⊢
        refine ⟨_, rfl, a, 5, rfl, hf7.ex e8, by omega, small_le (by omega), fun u H9 e9 hf9 u0 u1 => ?_⟩
        have e79 := (Eb.ofEx (a := a) e8).trans e9
        have hg9 := e79 _ _ naG.symm hg
        obtain ⟨o, ho, hat⟩ : ∃ o : Option Str, (o = none ∨ o = xs[i]?) ∧ atI [V.non, V.str n] (if decide (u < sh) = true then 1 else 0) = some (vo o) := by
          cases decide (u < sh) with
          | true => exact ⟨some n, .inr hn.symm, atI_nat (j := 1) rfl⟩
          | false => exact ⟨none, .inl rfl, atI_nat (j := 0) rfl⟩
        refine ⟨_, rfl, _, _, rfl, rfl, .inr ⟨_, rfl, l2, _, _, _, rfl, rfl, Evl.sq_of (e9 _ _ n2.symm g8), hat, g.map vo, hg9, ?_, fun b o nb nb2 h => ?_, feed_mut hf9 naG, g ++ [o], ?_, ?_, fun j o2 hj => ?_⟩⟩
        · rw [List.length_map, gl]; exact Nat.lt_of_lt_of_le hi' (Nat.le_trans (by omega : xs.length ≤ 30) (by decide))
        · rw [upd_ne nb2]; exact e79 _ _ nb (hk b o nb nb2 h)
        · rw [upd_same, List.map_append]; rfl
        · rw [List.length_append, gl]; rfl
        · by_cases z : j < g.length
          · rw [List.getElem?_append_left z] at hj
            exact hgs j o2 hj
          · have z2 : j = g.length := by
              have := (List.getElem?_eq_some_iff.mp hj).1
              simp at this; omega
            subst z2
            rw [List.getElem?_append_right (Nat.le_refl _)] at hj
            simp at hj
            rw [← hj, gl]; exact ho
      · obtain ⟨hk, hf7, g, hg, gl, hgs⟩ := P
        rw [List.length_map] at gl
        have hGH : H G = none := eb_back hf6 e6 hG hf
        refine ⟨_, rfl, q G H7 g hGH (fun b o nb h => hk b o nb (ne_of_none h hGH) (e6 _ _ nb h)) hf7 hg (sok_of ok.nd hxs gl hgs)⟩
    · intro _ key
      have nm : m ≠ a := feed_ne hf hm (fun _ _ _ z => by cases z)
      refine ⟨_, rfl, _, rfl, a, m, r, k, rows, rfl, hf5, e05 _ _ nm hm, hR0.eb hf e05, few, fun S2 H6 xs2 hS2 e6 hf6 h6 hxs2 => ?_⟩
      exact key _ _ ⟨S2, xs2, rfl, e05.trans e6, hf6, (feed_some hf5 hS2).symm, h6, hxs2⟩
end
end K21
/-! ## W22 -/
set_option Elab.async false
set_option linter.all false
set_option maxRecDepth 100000
set_option maxHeartbeats 4000000
/-! The same data. -/
namespace K21
open PySem PySem.Spec PyProof.Rows L2
mutual
/-- a value that reads as data off our own heap -/
inductive Dh (H : Hp) : V → PyData → Prop
  | non : Dh H .non .none
  | int (i : Int) : Dh H (.int i) (.int i)
  | str (x : Str) : Dh H (.str x) (.str x)
  | lst {a : Addr} {xs : List V} {ds : List PyData} : H a = some (.lst xs) → DhAll H xs ds → Dh H (.ref a) (.list ds)
  | tup {a : Addr} {xs : List V} {ds : List PyData} : H a = some (.tup xs) → DhAll H xs ds → Dh H (.ref a) (.tuple ds)
inductive DhAll (H : Hp) : List V → List PyData → Prop
  | nil : DhAll H [] []
  | cons {v : V} {vs : List V} {d : PyData} {ds : List PyData} : Dh H v d → DhAll H vs ds → DhAll H (v :: vs) (d :: ds)
end
mutual
theorem dh_dp {K : PySem.W.Frag} {H : Hp} : ∀ (d : PyData) (v : V), Dh H v d → Dp K H v d
  | .none, _, h => by cases h; exact .non
  | .bool b, _, h => by cases h
  | .int i, _, h => by cases h; exact .int i
  | .str x, _, h => by cases h; exact .str x
  | .list ds, _, h => by
    cases h with
    | lst h1 h2 => exact .lst (Evl.sq_of h1) (dha_dpa ds _ h2)
  | .tuple ds, _, h => by
    cases h with
    | tup h1 h2 => exact .tup (Evl.st_of h1) (dha_dpa ds _ h2)
  | .dict _, _, h => by cases h
theorem dha_dpa {K : PySem.W.Frag} {H : Hp} : ∀ (ds : List PyData) (vs : List V), DhAll H vs ds → DpAll K H vs ds
  | [], _, h => by cases h; exact .nil
  | d :: ds, _, h => by
    cases h with
    | cons h1 h2 => exact .cons (dh_dp d _ h1) (dha_dpa ds _ h2)
end
mutual
theorem dh_ex {H H' : Hp} (e : Ex H H') : ∀ (d : PyData) (v : V), Dh H v d → Dh H' v d
  | .none, _, h => by cases h; exact .non
  | .bool b, _, h => by cases h
  | .int i, _, h => by cases h; exact .int i
  | .str x, _, h => by cases h; exact .str x
  | .list ds, _, h => by
    cases h with
    | lst h1 h2 => exact .lst (e _ _ h1) (dha_ex e ds _ h2)
  | .tuple ds, _, h => by
    cases h with
    | tup h1 h2 => exact .tup (e _ _ h1) (dha_ex e ds _ h2)
  | .dict _, _, h => by cases h
theorem dha_ex {H H' : Hp} (e : Ex H H') : ∀ (ds : List PyData) (vs : List V), DhAll H vs ds → DhAll H' vs ds
  | [], _, h => by cases h; exact .nil
  | d :: ds, _, h => by
    cases h with
    | cons h1 h2 => exact .cons (dh_ex e d _ h1) (dha_ex e ds _ h2)
end
theorem dha_len {H : Hp} {vs : List V} {ds : List PyData} (h : DhAll H vs ds) : vs.length = ds.length := by
  induction vs generalizing ds with
  | nil => cases h; rfl
  | cons v vs ih =>
    cases h with
    | cons h1 h2 => rw [List.length_cons, List.length_cons, ih h2]
theorem dha_get {H : Hp} {vs : List V} {ds : List PyData} (h : DhAll H vs ds) {i : Nat} {v : V} (hv : vs[i]? = some v) : ∃ d, ds[i]? = some d ∧ Dh H v d := by
  induction vs generalizing ds i with
  | nil => simp at hv
  | cons u us ih =>
    cases h with
    | cons h1 h2 =>
      cases i with
      | zero => exact ⟨_, rfl, by cases hv; exact h1⟩
      | succ i => exact ih h2 hv
theorem dha_map {H : Hp} {β : Type} (l : List β) (f : β → V) (g : β → PyData) (h : ∀ x ∈ l, Dh H (f x) (g x)) : DhAll H (l.map f) (l.map g) := by
  induction l with
  | nil => exact .nil
  | cons a r ih => exact .cons (h a (by simp)) (ih fun x hx => h x (by simp [hx]))
def tyN : PyData → String
  | .none => "NoneType"
  | .bool _ => "bool"
  | .int _ => "int"
  | .str _ => "str"
  | .list _ => "list"
  | .tuple _ => "tuple"
  | .dict _ => "dict"
theorem dh_ty {K : PySem.W.Frag} {H : Hp} {v : V} {d : PyData} (h : Dh H v d) : TyX K H v (.type (tyN d)) := by
  cases h with
  | non => exact .base .non
  | int i => exact .base (.int i)
  | str x => exact .base (.str x)
  | lst h1 _ => exact .base (.lst h1)
  | tup h1 _ => exact .base (.tup h1)
theorem kit_n {K : PySem.W.Frag} {H : Hp} {v : V} {d : PyData} (h : Dh H v d) (c : String) (hc : c = "dict" ∨ c = "list" ∨ c = "tuple" ∨ c = "bool" ∨ c = "str") : PySem.W.kitOne K (.type (tyN d)) (.type c) = some (tyN d == c) := by
  refine kit_ty ?_
  rcases hc with rfl | rfl | rfl | rfl | rfl <;> cases h <;> (simp only [tyN]; decide +kernel)
theorem kit_lt {K : PySem.W.Frag} {H : Hp} {v : V} {d : PyData} (h : Dh H v d) : PySem.W.kitAny K (.type (tyN d)) [.type "list", .type "tuple"] = some (tyN d == "list" || tyN d == "tuple") := by
  unfold PySem.W.kitAny
  rw [kit_n h "list" (by simp)]
  cases e : (tyN d == "list") with
  | true => rfl
  | false =>
    unfold PySem.W.kitAny
    rw [kit_n h "tuple" (by simp)]
    cases (tyN d == "tuple") <;> rfl
theorem depth_mem : ∀ {ds : List PyData} {d : PyData}, d ∈ ds → d.depth ≤ PyData.depthAll ds
  | x :: r, d, h => by
    rw [PyData.depthAll]
    rcases List.mem_cons.mp h with e | h
    · rw [e]; exact Nat.le_max_left _ _
    · exact Nat.le_trans (depth_mem h) (Nat.le_max_right _ _)
theorem pure_mem : ∀ {ds : List PyData} {d : PyData}, pureAll ds = true → d ∈ ds → pure0 d = true
  | x :: r, d, hp, h => by
    rw [pureAll, Bool.and_eq_true] at hp
    rcases List.mem_cons.mp h with e | h
    · rw [e]; exact hp.1
    · exact pure_mem hp.2 h
mutual
def small0 : PyData → Bool
  | .none => true
  | .bool _ => true
  | .int _ => true
  | .str _ => true
  | .list xs => decide (xs.length ≤ 1000) && smallAll xs
  | .tuple xs => decide (xs.length ≤ 1000) && smallAll xs
  | .dict _ => true
def smallAll : List PyData → Bool
  | [] => true
  | x :: r => small0 x && smallAll r
end
theorem small_mem : ∀ {ds : List PyData} {d : PyData}, smallAll ds = true → d ∈ ds → small0 d = true
  | x :: r, d, hp, h => by
    rw [smallAll, Bool.and_eq_true] at hp
    rcases List.mem_cons.mp h with e | h
    · rw [e]; exact hp.1
    · exact small_mem hp.2 h
theorem smallAll_map {β : Type} (l : List β) (f : β → PyData) (h : ∀ x ∈ l, small0 (f x) = true) : smallAll (l.map f) = true := by
  induction l with
  | nil => rfl
  | cons a r ih =>
    rw [List.map_cons, smallAll, h a (by simp), ih fun x hx => h x (by simp [hx])]; rfl
theorem dh_scal_non {H : Hp} {v : V} {d : PyData} (h : Dh H v d) : decide (v = V.non) = (tyN d == "NoneType") := by
  cases h with
  | non => rfl
  | _ => refine (decide_eq_false (fun z => by cases z)).trans ?_; simp only [tyN]; decide +kernel
theorem walk_zipT {K : PySem.W.Frag} {a b : Addr} {xs ys : List V} {n : Nat} (hn : n = min xs.length ys.length) : Walk (RZ.ItzT K a b) n (fun H => SqT K H a xs ∧ SqT K H b ys) (YPair (fun i => xs[i]?) (fun i => ys[i]?)) := by
  subst hn
  refine ⟨fun i _ hi q => ?_, fun _ q => ⟨xs, ys, q.1, q.2, by omega⟩, fun i H v H' _ q y => ?_⟩
  · have h1 : i < xs.length := by omega
    have h2 : i < ys.length := by omega
    exact ⟨xs, ys, xs[i], ys[i], q.1, q.2, by simp [h1], by simp [h2]⟩
  · obtain ⟨T, x, z, h1, h2, h3, h4, h5⟩ := y
    exact ⟨T, x, z, h1, h2, h3, h4 xs q.1, h5 ys q.2⟩
def spSame (n : Nat) : Sp := fun vs H Q _ => ∃ (v1 v2 : V) (d : PyData), vs = [v1, v2] ∧ Dh H v1 d ∧ Dh H v2 d ∧ pure0 d = true ∧ small0 d = true ∧ d.depth < n ∧ n ≤ 10 ∧ ∀ H', Ex H H' → Q (.bl true) H'
section
variable {P : Program} {w : World} {K : PySem.W.Frag} {mg : Str → Option Value} {base : Heap} {C : Kd → Addr} {CB RC : Addr}
abbrev slaw_same : Stmt := top 76
abbrev Nlaw_same : List Str := ["_law_found", "_law_due", "_law_word", "_law_one", "_law_two"]
theorem sclaw_same : FnScope Nlaw_same ["_law_found", "_law_due"] (defScope slaw_same) := ⟨rfl, rfl, rfl, by decide +kernel, rfl, by decide +kernel, by decide +kernel⟩
-- 0 _law_found*, 1 _law_due*, 2 _law_word, 3 _law_one, 4 _law_two
theorem same_step (F : DF K mg "_law_same" slaw_same ["_law_found", "_law_due"]) (T : Txt K mg C CB RC) (n : Nat) (c__law_same : C8.Cal P w K mg base (n + 1) "_law_same" (spSame n) []) : C8.Cal P w K mg base (n + 2) "_law_same" (spSame (n + 1)) [] := by
  refine F.cal (N := Nlaw_same) sclaw_same (fun vs H Q E h => ?_) (fun f cdv A outer s H vs Q E hr h => ?_)
  · obtain ⟨v1, v2, d, rfl, _⟩ := h
    rfl
  · obtain ⟨v1, v2, d, rfl, h1, h2, hp, hs, hd, hn, q⟩ := h
    refine ⟨_, (pss_cons (ps_if (pt_val (pe_callB (call_isi_k K) (by rfl) T.isinstance_ (by decide +kernel) (pa_cons (pv 1) (pa_cons (pe_bltn (v := .ty "dict") (by rfl) T.dict_ (by decide +kernel) rfl) pa_nil)))) (pss_cons (ps_if (PW.pt (pw_or (pt_not (pt_val (pe_callB (call_isi_k K) (by rfl) T.isinstance_ (by decide +kernel) (pa_cons (pv 0) (pa_cons (pe_bltn (v := .ty "dict") (by rfl) T.dict_ (by decide +kernel) rfl) pa_nil))))) (pw_or1 (pt_cmpR (op_neD_k K (hr_u hr)) (pe_callTy (call_list_of_k K) (by rfl) T.list_ (by decide +kernel) (pa_cons (pv 0) pa_nil)) (pe_callTy (call_list_of_k K) (by rfl) T.list_ (by decide +kernel) (pa_cons (pv 1) pa_nil)) (nomark _))))) (pss_one (ps_ret pe_bl)) pss_nil)
      (pss_one (ps_ret (pe_callB (cr_all_k K rfl) (by rfl) T.all_ (by decide +kernel) (pa_cons (pe_lc (own := [("_law_word", 2)]) rfl sclaw_same.nd (pi_list_k K (pv 1)) (blkOk_by (N := Nlaw_same) (sc := defScope slaw_same) (own := [("_law_word", 2)]) (by decide +kernel)) (fun _ _ _ _ _ => (pg_name (i := 2) sclaw_same.nd rfl (Or.inl rfl))) (fun _ _ _ _ _ => pts_nil) (fun _ _ _ _ _ => (C8.pe_c c__law_same hr (Nat.le_refl _) (by rfl) (pa_cons (pe_ix (ix_list_k K) (pv 0) (pv 2) (fun _ _ => rfl)) (pa_cons (pe_ix (ix_list_k K) (pv 1) (pv 2) (fun _ _ => rfl)) pa_nil))))) pa_nil))))) pss_nil)
      (pss_cons (ps_if (pt_val (pe_callB (call_isiT_k K) (by rfl) T.isinstance_ (by decide +kernel) (pa_cons (pv 1) (pa_cons (pe_tup (pa_cons (pe_bltn (v := .ty "list") (by rfl) T.list_ (by decide +kernel) rfl) (pa_cons (pe_bltn (v := .ty "tuple") (by rfl) T.tuple_ (by decide +kernel) rfl) pa_nil))) pa_nil)))) (pss_cons (ps_if (PW.pt (pw_or (pt_cmpR op_ne (pe_callB (call_isi_k K) (by rfl) T.isinstance_ (by decide +kernel) (pa_cons (pv 0) (pa_cons (pe_bltn (v := .ty "list") (by rfl) T.list_ (by decide +kernel) rfl) pa_nil))) (pe_callB (call_isi_k K) (by rfl) T.isinstance_ (by decide +kernel) (pa_cons (pv 1) (pa_cons (pe_bltn (v := .ty "list") (by rfl) T.list_ (by decide +kernel) rfl) pa_nil))) (nomark _)) (pw_or1 (pt_cmpR op_ne (pe_callB (call_isi_k K) (by rfl) T.isinstance_ (by decide +kernel) (pa_cons (pv 0) (pa_cons (pe_bltn (v := .ty "tuple") (by rfl) T.tuple_ (by decide +kernel) rfl) pa_nil))) (pe_callB (call_isi_k K) (by rfl) T.isinstance_ (by decide +kernel) (pa_cons (pv 1) (pa_cons (pe_bltn (v := .ty "tuple") (by rfl) T.tuple_ (by decide +kernel) rfl) pa_nil))) (nomark _))))) (pss_one (ps_ret pe_bl)) pss_nil)
      (pss_one (ps_ret (pe_and (pe_cmpR op_eq (pe_callB (call_len_k K) (by rfl) T.len_ (by decide +kernel) (pa_cons (pv 0) pa_nil)) (pe_callB (call_len_k K) (by rfl) T.len_ (by decide +kernel) (pa_cons (pv 1) pa_nil)) (nomark _)) (pe_one (pe_callB (cr_all_k K rfl) (by rfl) T.all_ (by decide +kernel) (pa_cons (pe_lc (own := [("_law_one", 3), ("_law_two", 4)]) rfl sclaw_same.nd (RZ.pi_zipA (by rfl) T.zip_ (pa_cons (pv 0) (pa_cons (pv 1) pa_nil))) (blkOk_by (N := Nlaw_same) (sc := defScope slaw_same) (own := [("_law_one", 3), ("_law_two", 4)]) (by decide +kernel)) (fun _ _ _ _ _ => (pg_tup_k K (n := 2) rfl (pgs_cons (pg_name (i := 3) sclaw_same.nd rfl (Or.inl rfl)) (pgs_cons (pg_name (i := 4) sclaw_same.nd rfl (Or.inl rfl)) pgs_nil)))) (fun _ _ _ _ _ => pts_nil) (fun _ _ _ _ _ => (C8.pe_c c__law_same hr (Nat.le_refl _) (by rfl) (pa_cons (pv 3) (pa_cons (pv 4) pa_nil))))) pa_nil))))))) pss_nil)
      (pss_cons (ps_if (PW.pt (pw_or (pt_cmpR op_isN (pv 1) pe_non (nomark _)) (pw_or1 (pt_cmpR op_isN (pv 0) pe_non (nomark _))))) (pss_one (ps_ret (pe_and (pe_cmpR op_isN (pv 1) pe_non (nomark _)) (pe_one (pe_cmpR op_isN (pv 0) pe_non (nomark _)))))) pss_nil)
      (pss_cons (ps_if (PW.pt (pw_or (pt_cmpR op_ne (pe_callB (call_isi_k K) (by rfl) T.isinstance_ (by decide +kernel) (pa_cons (pv 0) (pa_cons (pe_bltn (v := .ty "bool") (by rfl) T.bool_ (by decide +kernel) rfl) pa_nil))) (pe_callB (call_isi_k K) (by rfl) T.isinstance_ (by decide +kernel) (pa_cons (pv 1) (pa_cons (pe_bltn (v := .ty "bool") (by rfl) T.bool_ (by decide +kernel) rfl) pa_nil))) (nomark _)) (pw_or1 (pt_cmpR op_ne (pe_callB (call_isi_k K) (by rfl) T.isinstance_ (by decide +kernel) (pa_cons (pv 0) (pa_cons (pe_bltn (v := .ty "str") (by rfl) T.str_ (by decide +kernel) rfl) pa_nil))) (pe_callB (call_isi_k K) (by rfl) T.isinstance_ (by decide +kernel) (pa_cons (pv 1) (pa_cons (pe_bltn (v := .ty "str") (by rfl) T.str_ (by decide +kernel) rfl) pa_nil))) (nomark _))))) (pss_one (ps_ret pe_bl)) pss_nil)
      (pss_one (ps_ret (pe_cmpR (op_eqD_k K (hr_u hr)) (pv 0) (pv 1) (nomark _)))))))), ?_⟩
    have tn : tyN d = "NoneType" ∨ tyN d = "int" ∨ tyN d = "str" ∨ tyN d = "list" ∨ tyN d = "tuple" := by
      cases h2 <;> simp [tyN]
    refine ⟨_, rfl, _, _, _, _, _, rfl, .ty _, dh_ty h2, kit_n h2 "dict" (by simp), false, ?_, iteF ?_⟩
    · refine bl_f ?_
      rcases tn with e | e | e | e | e <;> rw [e] <;> decide +kernel
    refine ⟨_, rfl, (by show 2 ≤ sizeLine; decide), fun t ht => ?_⟩
    have e1 : Ex H (upd H t (.tup [.ty "list", .ty "tuple"])) := Evl.Ex.new ht
    have g1 : upd H t (.tup [.ty "list", .ty "tuple"]) t = some (.tup [.ty "list", .ty "tuple"]) := upd_same
    generalize upd H t (.tup [.ty "list", .ty "tuple"]) = H1 at e1 g1 ⊢
    have h1' := dh_ex e1 _ _ h1
    have h2' := dh_ex e1 _ _ h2
    refine ⟨_, _, _, _, _, _, rfl, g1, .cons (.ty _) (.cons (.ty _) .nil), dh_ty h2', kit_lt h2', (tyN d == "list" || tyN d == "tuple"), rfl, ?_⟩
    have isi : ∀ (v : V) (h : Dh H1 v d) (c : String) (hc : c = "dict" ∨ c = "list" ∨ c = "tuple" ∨ c = "bool" ∨ c = "str"), rIsi K [v, .ty c] H1 = fun Q => rIsi K [v, .ty c] H1 Q := fun _ _ _ _ => rfl
    have atom : (tyN d == "list" || tyN d == "tuple") = false → SeqAt.shaped d = true → (tyN d = "NoneType" ∨ (tyN d == "NoneType") = false) := fun _ _ => by
      rcases tn with e | e | e | e | e <;> rw [e] <;> first | exact .inl rfl | exact .inr (by decide)
    have sh : SeqAt.shaped d = true := shaped_of hp (by omega)
    have seqs : ∀ (H3 : Hp) (D : Addr) (m : Nat), Ex H1 H3 → H3 D = some (.lst ((List.range m).filterMap fun _ => some (.bl true))) → rAll K [.ref D] H3 Q := fun H3 D m e h => rd_all h (q _ (e1.trans e))
    cases hd1 : (tyN d == "list" || tyN d == "tuple") with
    | true =>
      refine iteT ?_
      have tst : ∀ (c : String) (hc : c = "dict" ∨ c = "list" ∨ c = "tuple" ∨ c = "bool" ∨ c = "str") (σ : L2.St) (R : Bool → Hp → Prop), σ[0]? = some (some v1) → σ[1]? = some (some v2) → R false H1 →
          tTest (tOp rNe (tCB (rIsi K) (tCons (tVar 0) (tCons (tC (.ty c)) tNil))) (tCB (rIsi K) (tCons (tVar 1) (tCons (tC (.ty c)) tNil)))) σ H1 R := fun c hc σ R s0 s1 r => by
        refine ⟨_, s0, _, _, _, _, _, rfl, .ty _, dh_ty h1', kit_n h1' c hc, _, s1, _, _, _, _, _, rfl, .ty _, dh_ty h2', kit_n h2' c hc, rfl, false, ?_, r⟩
        refine bl_f ?_
        simp
      refine tst "list" (by simp) _ _ rfl rfl (iteF (tst "tuple" (by simp) _ _ rfl rfl (iteF ?_)))
      cases h2' with
      | non => simp [tyN] at hd1
      | int i => simp [tyN] at hd1
      | str x => simp [tyN] at hd1
      | @lst a2 ys ds hy ay =>
        cases h1' with
        | @lst a1 xs _ hx ax =>
          have hdd : PyData.depthAll ds < n := by rw [PyData.depth] at hd; omega
          have hpp : pureAll ds = true := by rw [pure0] at hp; exact hp
          have l1 := dha_len ax
          have l2 := dha_len ay
          refine ⟨_, rfl, a1, xs, rfl, .inl (Evl.sq_of hx), _, rfl, a2, ys, rfl, .inl (Evl.sq_of hy), rfl, true, ?_, iteT ?_⟩
          · refine bl_t (decide_eq_true ?_)
            rw [l1, l2]
          refine ⟨_, rfl, _, rfl, a1, a2, xs, ys, rfl, .inl ⟨Evl.sq_of hx, Evl.sq_of hy, fun D hD => ?_⟩⟩
          have hss : ds.length ≤ 1000 ∧ smallAll ds = true := by rw [small0, Bool.and_eq_true] at hs; exact ⟨of_decide_eq_true hs.1, hs.2⟩
          refine lcP (walk_zip (xs := xs) (ys := ys) (n := ds.length) (by omega)) (fun _ => some (.bl true)) hD (by omega) (fun H3 e => ⟨Evl.sq_of (e _ _ hx), Evl.sq_of (e _ _ hy)⟩) (fun i x H3 H4 Qy Qn hi e y k1 k2 => ?_) fun H3 e3 h3 => ?_
          · obtain ⟨u, x1, z1, rfl, nu, rfl, ex, ez⟩ := y
            have eu : Ex H3 (upd H3 u (.tup [x1, z1])) := Evl.Ex.new nu
            refine ⟨u, _, rfl, .inl (.inl upd_same), rfl, _, _, rfl, _, _, rfl, rfl, rfl, ?_⟩
            refine iteT (B := Qn (upd H3 u (.tup [x1, z1]))) ?_
            obtain ⟨d1, hd1', dx⟩ := dha_get ax ex
            obtain ⟨d2, hd2, dz⟩ := dha_get ay ez
            have ed : d1 = d2 := Option.some.inj (hd1'.symm.trans hd2)
            subst ed
            have hm := List.mem_of_getElem? hd1'
            refine ⟨_, rfl, _, rfl, x1, z1, d1, rfl, dh_ex (e.trans eu) _ _ dx, dh_ex (e.trans eu) _ _ dz, pure_mem hpp hm, small_mem hss.2 hm, Nat.lt_of_le_of_lt (depth_mem hm) hdd, by omega, fun H5 e5 => k1 _ _ (eu.trans e5) rfl⟩
          · try unfold tNil
            exact seqs H3 D _ e3 h3
      | @tup a2 ys ds hy ay =>
        cases h1' with
        | @tup a1 xs _ hx ax =>
          have hdd : PyData.depthAll ds < n := by rw [PyData.depth] at hd; omega
          have hpp : pureAll ds = true := by rw [pure0] at hp; exact hp
          have l1 := dha_len ax
          have l2 := dha_len ay
          refine ⟨_, rfl, a1, xs, rfl, .inr (Evl.st_of hx), _, rfl, a2, ys, rfl, .inr (Evl.st_of hy), rfl, true, ?_, iteT ?_⟩
          · refine bl_t (decide_eq_true ?_)
            rw [l1, l2]
          refine ⟨_, rfl, _, rfl, a1, a2, xs, ys, rfl, .inr ⟨Evl.st_of hx, Evl.st_of hy, fun D hD => ?_⟩⟩
          have hss : ds.length ≤ 1000 ∧ smallAll ds = true := by rw [small0, Bool.and_eq_true] at hs; exact ⟨of_decide_eq_true hs.1, hs.2⟩
          refine lcP (walk_zipT (xs := xs) (ys := ys) (n := ds.length) (by omega)) (fun _ => some (.bl true)) hD (by omega) (fun H3 e => ⟨Evl.st_of (e _ _ hx), Evl.st_of (e _ _ hy)⟩) (fun i x H3 H4 Qy Qn hi e y k1 k2 => ?_) fun H3 e3 h3 => ?_
          · obtain ⟨u, x1, z1, rfl, nu, rfl, ex, ez⟩ := y
            have eu : Ex H3 (upd H3 u (.tup [x1, z1])) := Evl.Ex.new nu
            refine ⟨u, _, rfl, .inl (.inl upd_same), rfl, _, _, rfl, _, _, rfl, rfl, rfl, ?_⟩
            refine iteT (B := Qn (upd H3 u (.tup [x1, z1]))) ?_
            obtain ⟨d1, hd1', dx⟩ := dha_get ax ex
            obtain ⟨d2, hd2, dz⟩ := dha_get ay ez
            have ed : d1 = d2 := Option.some.inj (hd1'.symm.trans hd2)
            subst ed
            have hm := List.mem_of_getElem? hd1'
            refine ⟨_, rfl, _, rfl, x1, z1, d1, rfl, dh_ex (e.trans eu) _ _ dx, dh_ex (e.trans eu) _ _ dz, pure_mem hpp hm, small_mem hss.2 hm, Nat.lt_of_le_of_lt (depth_mem hm) hdd, by omega, fun H5 e5 => k1 _ _ (eu.trans e5) rfl⟩
          · try unfold tNil
            exact seqs H3 D _ e3 h3
    | false =>
      refine iteF ?_
      refine ⟨_, rfl, rfl, _, rfl, ?_⟩
      rw [dh_scal_non h2']
      cases hnn : (tyN d == "NoneType") with
      | true =>
        refine iteT (iteT ?_)
        refine ⟨_, rfl, rfl, ?_⟩
        rw [dh_scal_non h2', hnn]
        refine ⟨true, rfl, iteT ⟨_, rfl, rfl, ?_⟩⟩
        rw [dh_scal_non h1', hnn]
        exact q _ e1
      | false =>
        refine iteF ⟨_, rfl, rfl, _, rfl, ?_⟩
        rw [dh_scal_non h1', hnn]
        refine iteF ?_
        have tst : ∀ (c : String) (hc : c = "dict" ∨ c = "list" ∨ c = "tuple" ∨ c = "bool" ∨ c = "str") (σ : L2.St) (R : Bool → Hp → Prop), σ[0]? = some (some v1) → σ[1]? = some (some v2) → R false H1 →
            tTest (tOp rNe (tCB (rIsi K) (tCons (tVar 0) (tCons (tC (.ty c)) tNil))) (tCB (rIsi K) (tCons (tVar 1) (tCons (tC (.ty c)) tNil)))) σ H1 R := fun c hc σ R s0 s1 r => by
          refine ⟨_, s0, _, _, _, _, _, rfl, .ty _, dh_ty h1', kit_n h1' c hc, _, s1, _, _, _, _, _, rfl, .ty _, dh_ty h2', kit_n h2' c hc, rfl, false, ?_, r⟩
          refine bl_f ?_
          simp
        refine tst "bool" (by simp) _ _ rfl rfl (iteF (tst "str" (by simp) _ _ rfl rfl (iteF ?_)))
        refine ⟨_, rfl, _, rfl, d, d, dh_dp _ _ h1', dh_dp _ _ h2', sh, sh, ?_⟩
        rw [(eqv_iff _ _ hp hp).mpr rfl]
        exact q _ e1
theorem cal_same (F : DF K mg "_law_same" slaw_same ["_law_found", "_law_due"]) (T : Txt K mg C CB RC) : ∀ n, C8.Cal P w K mg base (n + 1) "_law_same" (spSame n) []
  | 0 => F.cal (N := Nlaw_same) sclaw_same (fun vs H Q E h => by
      obtain ⟨v1, v2, d, rfl, _⟩ := h
      rfl) (fun f cdv A outer s H vs Q E hr h => by
      obtain ⟨v1, v2, d, _, _, _, _, _, hd, _⟩ := h
      omega)
  | n + 1 => same_step F T n (cal_same F T n)
end
end K21
/-! ## W23 -/
set_option Elab.async false
set_option linter.all false
set_option maxRecDepth 100000
set_option maxHeartbeats 4000000
/-! What the functions tell. -/
namespace K21
open PySem PySem.Spec PyProof.Rows L2
def rowD (x : List Str) : PyData := .list (x.map dS)
def lsOf (B : Bd Str) (g : Gv Str) (rs : List Int) : List (List Str) := rs.map fun r => itms (nthL B g (r % cnt B g))
/-- what is told where there are lists: a row of data -/
def factL (B : Bd Str) (g : Gv Str) (n : Str) (i : Nat) (rs : List Int) : List PyData :=
  [.int (cnt B g), .list ((lsOf B g rs).map rowD), .list ((lsOf B g rs).map fun x => .int (numL B g x)), .list ((posF B g n).map fun i => .int (i : Nat)),
    .tuple [.int (lowT (lw B g n i) (cnt B g)).1, .int (lowT (lw B g n i) (cnt B g)).2], .list ((certF B g).map dO)]
def factsD (B : Bd Str) (g : Gv Str) (n : Str) (i : Nat) (rs : List Int) : PyData := if cnt B g = 0 then .list [.int 0] else .list (factL B g n i rs)
def spFacts (C : Kd → Addr) : Sp := fun vs H Q _ => ∃ (a b c : Addr) (n : Str) (i : Nat) (k : Kd) (rows : List (Str × Int)) (g : Gv Str) (B : Bd Str) (rs : List Int), vs = [.ref a, .ref b, .str n, .int (i : Nat), .ref c] ∧ Asked C H a b k rows g B ∧ n ∈ B.ns ∧ i < B.ns.length ∧ H c = some (.lst (rs.map V.int)) ∧ rs.length ≤ 10 ∧
  ∀ q H', H q = none → Ex H H' → (∀ x, H x ≠ none → Dh (del H' x) (.ref q) (factsD B g n i rs)) → Q (.ref q) H'
theorem dh_vo {H : Hp} (o : Option Str) : Dh H (vo o) (dO o) := by cases o <;> constructor
theorem dh_strs {H : Hp} {p : Addr} {x : List Str} (h : H p = some (.lst (x.map V.str))) : Dh H (.ref p) (rowD x) := .lst h (dha_map x _ _ fun s _ => .str s)
theorem dha_append {H : Hp} {vs us : List V} {ds es : List PyData} (h : DhAll H vs ds) (h2 : DhAll H us es) : DhAll H (vs ++ us) (ds ++ es) := by
  induction vs generalizing ds with
  | nil => cases h; exact h2
  | cons v vs ih =>
    cases h with
    | cons h1 h3 => exact .cons h1 (ih h3)
theorem dha_strs {H : Hp} : ∀ {x : List Str} {xs : List V}, DhAll H xs (x.map dS) → xs = x.map V.str
  | [], xs, h => by
    have h : DhAll H xs [] := h
    cases h; rfl
  | s :: x, xs, h => by
    have h : DhAll H xs (.str s :: x.map dS) := h
    cases h with
    | cons h1 h2 =>
      cases h1
      rw [dha_strs h2]; rfl
theorem dh_row {H : Hp} {v : V} {x : List Str} (h : Dh H v (.list (x.map dS))) : ∃ p, v = .ref p ∧ H p = some (.lst (x.map V.str)) := by
  cases h with
  | lst h1 h2 => exact ⟨_, rfl, by rw [dha_strs h2] at h1; exact h1⟩
theorem Asked.ok2 {C : Kd → Addr} {H : Hp} {a b : Addr} {k : Kd} {rows : List (Str × Int)} {g : Gv Str} {B : Bd Str} (h : Asked C H a b k rows g B) : Gok B.ns g := gok_sok h.ok h.cn.perm
theorem Asked.nth {C : Kd → Addr} {H : Hp} {a b : Addr} {k : Kd} {rows : List (Str × Int)} {g : Gv Str} {B : Bd Str} (h : Asked C H a b k rows g B) {l : Int} (h0 : 0 ≤ l) (h1 : l < cnt B g) : Full B g (nthL B g l) ∧ (nthL B g l).map vo = (itms (nthL B g l)).map V.str ∧ (itms (nthL B g l)).map some = nthL B g l := by
  have f := nth_full (asc_nodup h.cn.asc) (g.count none) g l (Nat.le_refl _) h.ok2 h0 h1
  have e := itms_map f.full
  refine ⟨f, ?_, e⟩
  show (nthF _ B g l).map vo = (itms (nthF _ B g l)).map V.str
  conv => lhs; rw [← e]
  exact vo_some _
section
variable {P : Program} {w : World} {K : PySem.W.Frag} {mg : Str → Option Value} {base : Heap} {C : Kd → Addr} {CB RC : Addr}
abbrev slaw_facts : Stmt := top 77
abbrev Nlaw_facts : List Str := ["_law_book_here", "_law_sights_here", "_law_name", "_law_spot", "_law_ranks", "_law_many", "_law_lists", "_law_rest", "_law_rank", "_law_row"]
theorem sclaw_facts : FnScope Nlaw_facts ["_law_book_here", "_law_sights_here", "_law_name", "_law_spot", "_law_ranks"] (defScope slaw_facts) := ⟨rfl, rfl, rfl, by decide +kernel, rfl, by decide +kernel, by decide +kernel⟩
-- 0 _law_book_here*, 1 _law_sights_here*, 2 _law_name, 3 _law_spot, 4 _law_ranks, 5 _law_many*, 6 _law_lists, 7 _law_rest, 8 _law_rank, 9 _law_row
theorem cal_facts (F : DF K mg "_law_facts" slaw_facts ["_law_book_here", "_law_sights_here", "_law_name", "_law_spot", "_law_ranks"]) (T : Txt K mg C CB RC) (c_count : CaN P w K mg base 7 "count" 1 (spCount C)) (c_nth_list : CaN P w K mg base 7 "nth_list" 2 (spNth C)) (c_positions : CaN P w K mg base 7 "positions" 2 (spPositions C)) (c_share : CaN P w K mg base 7 "share" 3 (spShare C)) (c_certain : CaN P w K mg base 7 "certain" 1 (spCertain C)) (c_list_number : CaN P w K mg base 7 "list_number" 2 (spNumber C)) : C8.Cal P w K mg base 8 "_law_facts" (spFacts C) [] := by
  refine F.cal sclaw_facts (fun vs H Q E h => ?_) (fun f cdv A outer s H vs Q E hr h => ?_)
  · obtain ⟨a, b, c, n, i, k, rows, g, B, rs, rfl, _⟩ := h
    rfl
  · obtain ⟨a, b, c, n, i, k, rows, g, B, rs, rfl, hA, hn, hi, hc, hrl, q⟩ := h
    have hlen := hA.cn.len
    have few := hA.few
    refine ⟨_, (pss_cons (ps_set (i := 5) sclaw_facts.nd rfl (Or.inr rfl) (pe_cn c_count hr (by decide) (by rfl) (pa_cons (pv 0) pa_nil) (pk_cons (pv 1) pk_nil)))
      (pss_cons (ps_if (pt_cmpR op_eq (pv 5) pe_int (nomark _)) (pss_one (ps_ret (pe_lst (pa_cons pe_int pa_nil)))) pss_nil)
      (pss_cons (ps_setLc (i := 6) (own := [("_law_rank", 8)]) rfl sclaw_facts.nd rfl rfl (sw_true rfl rfl rfl (by decide +kernel)) (pi_list_k K (pv 4)) (blkOk_by (N := Nlaw_facts) (sc := defScope slaw_facts) (own := [("_law_rank", 8)]) (by decide +kernel)) (fun _ _ _ _ _ => (pg_name (i := 8) sclaw_facts.nd rfl (Or.inl rfl))) (fun _ _ _ _ _ => pts_nil) (fun _ _ _ _ _ => (pe_cn c_nth_list hr (by decide) (by rfl) (pa_cons (pv 0) (pa_cons (pe_op op_mod (pv 8) (pv 5)) pa_nil)) (pk_cons (pv 1) pk_nil))))
      (pss_cons (ps_set (i := 7) sclaw_facts.nd rfl (Or.inl rfl) (pe_lst (pa_cons (pe_cn c_positions hr (by decide) (by rfl) (pa_cons (pv 0) (pa_cons (pv 2) pa_nil)) (pk_cons (pv 1) pk_nil)) (pa_cons (pe_cn c_share hr (by decide) (by rfl) (pa_cons (pv 0) (pa_cons (pv 2) (pa_cons (pv 3) pa_nil))) (pk_cons (pv 1) pk_nil)) pa_nil))))
      (pss_cons (ps_expr (pe_bm_k K PySem.F.plainAttrs_list PySem.F.slot_list_append PySem.F.type_list_append mt_append (pv 7) (pa_cons (pe_cn c_certain hr (by decide) (by rfl) (pa_cons (pv 0) pa_nil) (pk_cons (pv 1) pk_nil)) pa_nil)))
      (pss_one (ps_ret (pe_op op_cat (pe_lst (pa_cons (pv 5) (pa_cons (pv 6) (pa_cons (pe_lc (own := [("_law_row", 9)]) rfl sclaw_facts.nd (pi_list_k K (pv 6)) (blkOk_by (N := Nlaw_facts) (sc := defScope slaw_facts) (own := [("_law_row", 9)]) (by decide +kernel)) (fun _ _ _ _ _ => (pg_name (i := 9) sclaw_facts.nd rfl (Or.inl rfl))) (fun _ _ _ _ _ => pts_nil) (fun _ _ _ _ _ => (pe_cn c_list_number hr (by decide) (by rfl) (pa_cons (pv 0) (pa_cons (pv 9) pa_nil)) (pk_cons (pv 1) pk_nil)))) pa_nil)))) (pv 7))))))))), ?_⟩
    refine ⟨_, rfl, _, rfl, rfl, rfl, a, b, k, rows, g, B, rfl, hA, fun H1 e1 => ?_⟩
    refine ⟨_, rfl, rfl, decide (V.int (cnt B g) = V.int 0), rfl, ?_⟩
    by_cases z : cnt B g = 0
    · rw [decide_eq_true (by rw [z])]
      refine iteT ?_
      refine ⟨(by show 1 ≤ sizeLine; decide), fun D hD => ?_⟩
      refine q D _ (Evl.fresh_back e1 hD) (e1.trans (Evl.Ex.new hD)) fun x hx => ?_
      unfold factsD
      rw [if_pos z]
      have nx : D ≠ x := fun y => hx (by rw [← y]; exact Evl.fresh_back e1 hD)
      exact .lst (by rw [del_ne nx]; exact upd_same) (.cons (.int 0) .nil)
    rw [decide_eq_false (fun y => z (by injection y))]
    refine iteF ?_
    have hpos : 0 < cnt B g := by have := cnt_nonneg B g; omega
    have hA1 := hA.ex e1
    have hc1 := e1 _ _ hc
    have hcn : H c ≠ none := by rw [hc]; exact fun y => by cases y
    refine ⟨_, rfl, c, rfl, ⟨_, Evl.sq_of hc1⟩, fun L hL => ?_⟩
    refine lcA (walk_list (xs := rs.map V.int)) (fun i acc H2 => ∀ x, H x ≠ none → DhAll (del H2 x) acc (((lsOf B g rs).take i).map rowD)) hL (by rw [List.length_map]; omega) (fun H2 e => Evl.sq_of (e _ _ hc1)) (fun _ _ => .nil) (fun i acc H2 h => ?_) (fun i acc H2 H3 h e x hx => dha_ex (del_ex e) _ _ (h x hx)) (fun j x H2 H3 acc Qy Qn hj e hacc hAc y k1 k2 => ?_) fun H2 acc e2 h2 hAc => ?_
    · rw [dha_len (h c hcn), List.length_map, List.length_take]; omega
    · obtain ⟨rfl, hx⟩ := y
      rw [List.getElem?_map] at hx
      obtain ⟨r1, hr1, rfl⟩ := Option.map_eq_some_iff.mp hx
      have hA2 := hA1.ex e
      refine ⟨rfl, yes_if ?_⟩
      have m0 := Int.emod_nonneg r1 (by omega : cnt B g ≠ 0)
      have m1 := Int.emod_lt_of_pos r1 hpos
      refine ⟨_, rfl, _, rfl, _, rfl, _, _, rfl, rfl, hpos, _, rfl, rfl, rfl, a, b, r1 % cnt B g, k, rows, g, B, rfl, hA2, m0, m1, fun p H4 hp4 e4 h4 => ?_⟩
      obtain ⟨f1, f2, f3⟩ := hA2.nth m0 m1
      rw [f2] at h4
      have hl1 : (lsOf B g rs)[j]? = some (itms (nthL B g (r1 % cnt B g))) := by
        unfold lsOf
        rw [List.getElem?_map, hr1]; rfl
      refine k1 _ _ e4 fun xx hxx => ?_
      rw [List.take_add_one, hl1, List.map_append]
      have npD : p ≠ L := fun y => by rw [y, hacc] at hp4; cases hp4
      have npx : p ≠ xx := fun y => hxx (by rw [← y]; exact Evl.fresh_back (e1.trans e) hp4)
      exact dha_append (dha_ex (del_ex (del_ex e4)) _ _ (hAc xx hxx)) (.cons (dh_strs (by rw [del_ne npx, del_ne npD]; exact h4)) .nil)
    have hlsx : ∀ x, H x ≠ none → DhAll (del H2 x) acc ((lsOf B g rs).map rowD) := fun x hx => by
      have := dha_ex (del_ex del_sub) _ _ (hAc x hx)
      rwa [List.length_map, show rs.length = (lsOf B g rs).length from (List.length_map _).symm, List.take_length] at this
    have hls : DhAll H2 acc ((lsOf B g rs).map rowD) := dha_ex del_sub _ _ (hlsx c hcn)
    have lsl : (lsOf B g rs).length = rs.length := List.length_map _
    have accl : acc.length = rs.length := by rw [dha_len hls, List.length_map, lsl]
    have hA2 := hA1.ex e2
    refine ⟨_, rfl, _, rfl, _, rfl, rfl, rfl, a, b, n, k, rows, g, B, rfl, hA2, hn, hpos, fun pp H3 npp e3 h3 => ?_⟩
    have hA3 := hA2.ex e3
    refine ⟨_, rfl, _, rfl, _, rfl, _, rfl, rfl, rfl, a, b, n, i, k, rows, g, B, rfl, hA3, hn, hi, hpos, fun ps H4 nps e4 h4 => ?_⟩
    have hA4 := hA3.ex e4
    refine ⟨(by show 2 ≤ sizeLine; decide), fun R hR => ?_⟩
    have e5 : Ex H4 (upd H4 R (.lst [.ref pp, .ref ps])) := Evl.Ex.new hR
    have g5 : upd H4 R (.lst [.ref pp, .ref ps]) R = some (.lst [.ref pp, .ref ps]) := upd_same
    generalize upd H4 R (.lst [.ref pp, .ref ps]) = H5 at e5 g5 ⊢
    have hA5 := hA4.ex e5
    refine ⟨_, rfl, .inl ⟨rfl, _, Evl.sq_of g5⟩, _, rfl, _, rfl, rfl, rfl, a, b, k, rows, g, B, rfl, hA5, hpos, fun pc H6 npc e6 h6 => ?_⟩
    have g6 := e6 _ _ g5
    refine ⟨R, _, _, rfl, rfl, g6, (by show 2 < sizeLine; decide), ?_⟩
    -- behind the append
    have e46 := e4.trans (e5.trans e6)
    have hRH4 := hR
    have ins : Ex H4 (upd H6 R (.lst ([V.ref pp, V.ref ps] ++ [V.ref pc]))) := Evl.Ex.mut (e5.trans e6) hR
    have g7 : upd H6 R (.lst ([V.ref pp, V.ref ps] ++ [V.ref pc])) R = some (.lst [V.ref pp, V.ref ps, V.ref pc]) := upd_same
    have hpc : upd H6 R (.lst ([V.ref pp, V.ref ps] ++ [V.ref pc])) pc = some (.lst ((certF B g).map vo)) := by
      rw [upd_ne (fun y => ?_)]
      · exact h6
      · rw [y, g6] at h6
        have : [V.ref pp, V.ref ps] = (certF B g).map vo := by injection h6 with h6; injection h6
        cases hh : certF B g with
        | nil => rw [hh] at this; cases this
        | cons o r =>
          rw [hh] at this
          injection this with this _
          cases o <;> cases this
    generalize upd H6 R (.lst ([V.ref pp, V.ref ps] ++ [V.ref pc])) = H7 at ins g7 hpc ⊢
    have hpp7 : H7 pp = some (.lst ((posF B g n).map fun i => V.int (i : Nat))) := ins _ _ (e4 _ _ h3)
    have hps7 := ins _ _ h4
    have e27 := (e3.trans e4).trans ins
    have hls7 := dha_ex e27 _ _ hls
    have hA7 := hA2.ex e27
    have h27 := e27 _ _ h2
    -- the numbers
    refine ⟨_, rfl, _, rfl, _, rfl, L, rfl, ⟨_, Evl.sq_of h27⟩, fun D hD => ?_⟩
    refine lcP (walk_list (xs := acc)) (fun j => ((lsOf B g rs)[j]?).map fun x => V.int (numL B g x)) hD (by omega) (fun H8 e => Evl.sq_of (e _ _ h27)) (fun j x H8 H9 Qy Qn hj e y k1 k2 => ?_) fun H8 e8 h8 => ?_
    · obtain ⟨rfl, hx⟩ := y
      obtain ⟨d1, hd1, hx1⟩ := dha_get hls7 hx
      rw [List.getElem?_map] at hd1
      obtain ⟨xr, hxr, rfl⟩ := Option.map_eq_some_iff.mp hd1
      unfold rowD at hx1
      have hxr2 := hxr
      unfold lsOf at hxr
      rw [List.getElem?_map] at hxr
      obtain ⟨r1, hr1, rfl⟩ := Option.map_eq_some_iff.mp hxr
      have m0 := Int.emod_nonneg r1 (by omega : cnt B g ≠ 0)
      have m1 := Int.emod_lt_of_pos r1 hpos
      obtain ⟨f1, f2, f3⟩ := hA7.nth m0 m1
      obtain ⟨p, rfl, hp⟩ := dh_row hx1
      refine ⟨rfl, yes_if ?_⟩
      refine ⟨_, rfl, _, rfl, _, rfl, rfl, rfl, a, b, p, k, rows, g, B, itms (nthL B g (r1 % cnt B g)), rfl, hA7.ex e, e _ _ hp, by rw [f3]; exact f1, fun H10 e10 => k1 _ _ e10 ?_⟩
      rw [hxr2]; rfl
    have eS : (List.range acc.length).filterMap (fun j => ((lsOf B g rs)[j]?).map fun x => V.int (numL B g x)) = (lsOf B g rs).map fun x => V.int (numL B g x) := by
      rw [accl, ← lsl]
      exact range_get (lsOf B g rs) _ _ fun j x hx => by rw [hx]; rfl
    rw [eS] at h8
    refine ⟨(by show 3 ≤ sizeLine; decide), fun M hM => ?_⟩
    have e9 : Ex H8 (upd H8 M (.lst [.int (cnt B g), .ref L, .ref D])) := Evl.Ex.new hM
    refine ⟨_, rfl, M, R, _, _, rfl, rfl, upd_same, e9 _ _ (e8 _ _ g7), (by show 3 + 3 ≤ sizeLine; decide), fun q1 hq1 => ?_⟩
    have e10 := e9.trans (Evl.Ex.new hq1 (o := .lst ([.int (cnt B g), .ref L, .ref D] ++ [V.ref pp, V.ref ps, V.ref pc])))
    have eall : Ex H2 (upd (upd H8 M (.lst [.int (cnt B g), .ref L, .ref D])) q1 (.lst ([.int (cnt B g), .ref L, .ref D] ++ [V.ref pp, V.ref ps, V.ref pc]))) := e27.trans (e8.trans e10)
    refine q q1 _ (Evl.fresh_back (((e1.trans e2).trans e27).trans (e8.trans e9)) hq1) ((e1.trans e2).trans eall) fun x hx => ?_
    unfold factsD
    rw [if_neg z]
    have new : ∀ (Z : Hp) (y : Addr), Ex H Z → Z y = none → y ≠ x := fun Z y e hy w => hx (by rw [← w]; exact Evl.fresh_back e hy)
    have n1 := new _ _ (((e1.trans e2).trans e27).trans (e8.trans e9)) hq1
    have n2 := new _ _ e1 hL
    have n3 := new _ _ ((e1.trans e2).trans e27) hD
    have n4 := new _ _ (e1.trans e2) npp
    have n5 := new _ _ ((e1.trans e2).trans e3) nps
    have n6 := new _ _ ((e1.trans e2).trans (e3.trans (e4.trans e5))) npc
    refine .lst (by rw [del_ne n1]; exact upd_same) ?_
    unfold factL
    refine .cons (.int _) (.cons (.lst (by rw [del_ne n2]; exact eall _ _ h2) (dha_ex (del_ex eall) _ _ (hlsx x hx))) (.cons (.lst (by rw [del_ne n3]; exact e10 _ _ h8) (dha_map _ _ _ fun x _ => .int _)) (.cons (.lst (by rw [del_ne n4]; exact (e8.trans e10) _ _ hpp7) (dha_map _ _ _ fun x _ => .int _)) (.cons (.tup (by rw [del_ne n5]; exact (e8.trans e10) _ _ hps7) (.cons (.int _) (.cons (.int _) .nil))) (.cons (.lst (by rw [del_ne n6]; exact (e8.trans e10) _ _ hpc) (dha_map _ _ _ fun o _ => dh_vo o)) .nil)))))
end
end K21
/-! ## W24 -/
set_option Elab.async false
set_option linter.all false
set_option maxRecDepth 100000
set_option maxHeartbeats 4000000
/-! Other items. -/
namespace K21
open PySem PySem.Spec PyProof.Rows L2
def newOf (i : Nat) : Str := (⟨#[97 + i / 5]⟩ : Str) ++ mulS ⟨#[97 + i % 5]⟩ 3
theorem new_ok : ∀ i : Nat, i < 30 → okItem (newOf i) := by decide +kernel
theorem new_lt : ∀ i : Nat, i < 30 → ∀ j : Nat, j < 30 → ltS (newOf i) (newOf j) = decide (i < j) := by decide +kernel
theorem new_a1 : ∀ i : Nat, i < 30 → atI letters.cps.toList ((i : Int) / 5) = some (97 + i / 5) := by decide +kernel
theorem new_a2 : ∀ i : Nat, i < 30 → atI ("abcdefgh" : Str).cps.toList ((i : Int) % 5) = some (97 + i % 5) := by decide +kernel
theorem new_len : ∀ i : Nat, i < 30 → (⟨#[97 + i / 5]⟩ : Str).length + (mulS ⟨#[97 + i % 5]⟩ 3).length ≤ 8 := by decide +kernel
def fN (ns : List Str) (n : Str) : Str := newOf (ns.idxOf n)
/-- the board with other items -/
def bdN (B : Bd Str) : Bd Str := ⟨B.ns.map (fN B.ns), fun m => match B.ns.find? fun n => fN B.ns n == m with | some n => B.fl n | none => 0, B.tn⟩
theorem idx_lt {ns : List Str} {n : Str} (h : n ∈ ns) : ns.idxOf n < ns.length := List.idxOf_lt_length_of_mem h
theorem fN_inj {ns : List Str} (h30 : ns.length ≤ 30) {a b : Str} (ha : a ∈ ns) (hb : b ∈ ns) (e : fN ns a = fN ns b) : a = b := by
  have la := idx_lt ha
  have lb := idx_lt hb
  have l1 := new_lt (ns.idxOf a) (by omega) (ns.idxOf b) (by omega)
  have l2 := new_lt (ns.idxOf b) (by omega) (ns.idxOf a) (by omega)
  unfold fN at e
  rw [e, ltS_irr] at l1
  rw [e, ltS_irr] at l2
  have n1 := of_decide_eq_false l1.symm
  have n2 := of_decide_eq_false l2.symm
  have ei : ns.idxOf a = ns.idxOf b := by omega
  have h1 : ns[ns.idxOf a]? = some a := List.getElem?_eq_some_iff.mpr ⟨la, List.getElem_idxOf la⟩
  have h2 : ns[ns.idxOf b]? = some b := List.getElem?_eq_some_iff.mpr ⟨lb, List.getElem_idxOf lb⟩
  rw [ei, h2] at h1
  exact (Option.some.inj h1).symm
theorem idx_mono {ns : List Str} (hs : ns.Pairwise LtS) {a b : Str} (ha : a ∈ ns) (hb : b ∈ ns) : (ns.idxOf a < ns.idxOf b) ↔ LtS a b := by
  have la := idx_lt ha
  have lb := idx_lt hb
  have ea : ns[ns.idxOf a] = a := List.getElem_idxOf la
  have eb : ns[ns.idxOf b] = b := List.getElem_idxOf lb
  have pw := List.pairwise_iff_getElem.mp hs
  constructor
  · intro h
    have := pw _ _ la lb h
    rwa [ea, eb] at this
  · intro h
    rcases Nat.lt_trichotomy (ns.idxOf a) (ns.idxOf b) with c | c | c
    · exact c
    · have : a = b := by rw [← ea, ← eb]; simp only [c]
      rw [this, LtS, ltS_irr] at h; cases h
    · have := pw _ _ lb la c
      rw [ea, eb] at this
      have h2 := ltS_asym h
      rw [LtS, h2] at this; cases this
theorem fN_lt {ns : List Str} (hs : ns.Pairwise LtS) (h30 : ns.length ≤ 30) {a b : Str} (ha : a ∈ ns) (hb : b ∈ ns) : ltS (fN ns a) (fN ns b) = ltS a b := by
  have la := idx_lt ha
  have lb := idx_lt hb
  unfold fN
  rw [new_lt _ (by omega) _ (by omega)]
  by_cases c : ltS a b = true
  · rw [c]; exact decide_eq_true ((idx_mono hs ha hb).mpr c)
  · rw [Bool.not_eq_true] at c
    rw [c]
    refine decide_eq_false fun z => ?_
    have := (idx_mono hs ha hb).mp z
    rw [LtS, c] at this; cases this
theorem bdN_ren {B : Bd Str} (hs : B.ns.Pairwise LtS) (h30 : B.ns.length ≤ 30) : Ren (fN B.ns) B (bdN B) := by
  refine ⟨rfl, rfl, fun n hn => ?_, fun a ha b hb e => fN_inj h30 ha hb e⟩
  show (match B.ns.find? fun m => fN B.ns m == fN B.ns n with | some n => B.fl n | none => 0) = _
  cases e : B.ns.find? fun m => fN B.ns m == fN B.ns n with
  | none => exact absurd (List.find?_eq_none.mp e n hn) (by simp)
  | some m =>
    have h1 := List.mem_of_find?_eq_some e
    have h2 : fN B.ns m = fN B.ns n := by simpa using List.find?_some e
    rw [fN_inj h30 h1 hn h2]
theorem bdN_asc {B : Bd Str} (hs : B.ns.Pairwise LtS) (h30 : B.ns.length ≤ 30) : (bdN B).ns.Pairwise LtS := by
  show (B.ns.map (fN B.ns)).Pairwise LtS
  refine List.pairwise_map.mpr (List.Pairwise.imp_of_mem (fun {a b} ha hb h => ?_) hs)
  show ltS _ _ = true
  rw [fN_lt hs h30 ha hb]; exact h
/-- rows with other items -/
def rowsN (ns : List Str) (rows : List (Str × Int)) : List (Str × Int) := rows.map fun r => (fN ns r.1, r.2)
theorem canonN {k : Kd} {rows : List (Str × Int)} {B : Bd Str} (c : Canon k rows B) (h30 : rows.length ≤ 30) : Canon k (rowsN B.ns rows) (bdN B) := by
  have hl : B.ns.length ≤ 30 := by rw [c.len]; exact h30
  have r := bdN_ren c.asc hl
  refine ⟨?_, bdN_asc c.asc hl, c.tn, fun m s hm => ?_⟩
  · unfold rowsN
    rw [List.map_map]
    have : ((fun r : Str × Int => r.1) ∘ fun r : Str × Int => (fN B.ns r.1, r.2)) = fN B.ns ∘ fun r => r.1 := rfl
    rw [this, ← List.map_map]
    exact c.perm.map _
  · obtain ⟨⟨n, s1⟩, hr, e⟩ := List.mem_map.mp hm
    injection e with e1 e2
    subst e1 e2
    have hn : n ∈ B.ns := c.perm.mem_iff.mp (List.mem_map.mpr ⟨(n, s1), hr, rfl⟩)
    rw [r.fl n hn, c.fl n s1 hr]
    unfold rowsN
    rw [List.length_map]
theorem gin_of {B : Bd Str} {g : Gv Str} (h : Gok B.ns g) : Gin B g := fun n hn => h.mem n hn
theorem itms_gm {f : Str → Str} (g : Gv Str) : itms (gm f g) = (itms g).map f := by
  unfold itms gm
  rw [List.filterMap_map, List.map_filterMap]
  refine fmap_eq fun o _ => ?_
  cases o <;> rfl
theorem count_gm {f : Str → Str} (g : Gv Str) : (gm f g).count none = g.count none := by
  unfold gm
  induction g with
  | nil => rfl
  | cons o r ih => cases o <;> simp [List.count_cons, ih]
end K21
/-! ## W25 -/
set_option Elab.async false
set_option linter.all false
set_option maxRecDepth 100000
set_option maxHeartbeats 4000000
/-! Other items in the same sequence: the law's part. -/
namespace K21
open PySem PySem.Spec PyProof.Rows L2
section
variable {B : Bd Str} {g : Gv Str} {rs : List Int}
theorem lsOf_mem (hs : B.ns.Pairwise LtS) (ok : Gok B.ns g) (hpos : 0 < cnt B g) {x : List Str} (hx : x ∈ lsOf B g rs) : (∀ s ∈ x, s ∈ B.ns) ∧ x.length = B.ns.length := by
  obtain ⟨r, _, rfl⟩ := List.mem_map.mp hx
  have f := nth_full (asc_nodup hs) (g.count none) g (r % cnt B g) (Nat.le_refl _) ok (Int.emod_nonneg r (by omega)) (Int.emod_lt_of_pos r hpos)
  have e := itms_map f.full
  refine ⟨fun s h => f.ok.mem s (itms_get h), ?_⟩
  have := f.ok.len
  rw [← e, List.length_map] at this
  exact this
theorem lsOf_ren (hs : B.ns.Pairwise LtS) (h30 : B.ns.length ≤ 30) (ok : Gok B.ns g) : lsOf (bdN B) (gm (fN B.ns) g) rs = (lsOf B g rs).map fun x => x.map (fN B.ns) := by
  have r := bdN_ren hs h30
  unfold lsOf
  rw [List.map_map]
  refine List.map_congr_left fun k _ => ?_
  show itms (nthL (bdN B) (gm (fN B.ns) g) (k % cnt (bdN B) (gm (fN B.ns) g))) = (itms (nthL B g (k % cnt B g))).map (fN B.ns)
  rw [ren_cnt r (gin_of ok)]
  unfold nthL
  rw [count_gm, ren_nth r _ _ _ (gin_of ok), itms_gm]
theorem num_ren (hs : B.ns.Pairwise LtS) (h30 : B.ns.length ≤ 30) (ok : Gok B.ns g) {x : List Str} (hx : ∀ s ∈ x, s ∈ B.ns) (hl : g.length ≤ x.length) : numL (bdN B) (gm (fN B.ns) g) (x.map (fN B.ns)) = numL B g x := by
  unfold numL
  exact ren_num (bdN_ren hs h30) hx (fun a ha b hb => fN_lt hs h30 ha hb) g 0 g 0 (gin_of ok) (by omega)
/-- what is told of the other items -/
theorem factL_ren (hs : B.ns.Pairwise LtS) (h30 : B.ns.length ≤ 30) (ok : Gok B.ns g) (hpos : 0 < cnt B g) {n : Str} (hn : n ∈ B.ns) (i : Nat) :
    factL (bdN B) (gm (fN B.ns) g) (fN B.ns n) i rs = [.int (cnt B g), .list ((lsOf B g rs).map fun x => rowD (x.map (fN B.ns))), .list ((lsOf B g rs).map fun x => .int (numL B g x)), .list ((posF B g n).map fun i => .int (i : Nat)),
      .tuple [.int (lowT (lw B g n i) (cnt B g)).1, .int (lowT (lw B g n i) (cnt B g)).2], .list ((certF B g).map fun o => dO (o.map (fN B.ns)))] := by
  have r := bdN_ren hs h30
  have gi := gin_of ok
  unfold factL
  rw [ren_cnt r gi, lsOf_ren hs h30 ok, ren_pos r gi hn, ren_lw r gi hn, ren_cert r gi, List.map_map, List.map_map]
  have e1 : (lsOf B g rs).map ((fun x => PyData.int (numL (bdN B) (gm (fN B.ns) g) x)) ∘ fun x => x.map (fN B.ns)) = (lsOf B g rs).map fun x => .int (numL B g x) := by
    refine List.map_congr_left fun x hx => ?_
    obtain ⟨h1, h2⟩ := lsOf_mem hs ok hpos hx
    show PyData.int (numL (bdN B) (gm (fN B.ns) g) (x.map (fN B.ns))) = _
    rw [num_ren hs h30 ok h1 (by rw [h2, ok.len]; exact Nat.le_refl _)]
  rw [e1]
  unfold gm
  rw [List.map_map]
  rfl
/-- plain data -/
theorem rowD_ok {x : List Str} (h : ∀ s ∈ x, okItem s) : pure0 (rowD x) = true := by
  unfold rowD
  rw [pure0]
  exact pureAll_map x dS fun s hs => item_pure (h s hs)
theorem cert_mem (h : certAt B g i = some n) (ok : Gok B.ns g) : n ∈ B.ns := by
  unfold certAt at h
  split at h
  · rename_i m e
    cases h
    exact ok.mem _ (List.mem_of_getElem? e)
  · cases e : opts B g i with
    | nil => rw [e] at h; cases h
    | cons o r =>
      cases r with
      | nil =>
        rw [e] at h
        cases h
        have : o ∈ opts B g i := by rw [e]; simp
        obtain ⟨h1, _⟩ := mem_opts (n := o.1) (c := o.2) |>.mp this
        exact h1
      | cons _ _ => rw [e] at h; cases h
theorem factL_ok (hs : B.ns.Pairwise LtS) (ok : Gok B.ns g) (its : ∀ n ∈ B.ns, okItem n) (few : B.ns.length ≤ 40) (hpos : 0 < cnt B g) (n : Str) (i : Nat) (hr : rs.length ≤ 10) : pureAll (factL B g n i rs) = true ∧ smallAll (factL B g n i rs) = true ∧ PyData.depthAll (factL B g n i rs) ≤ 2 := by
  have gl : g.length ≤ 40 := by rw [ok.len]; exact few
  have hrow : ∀ x ∈ lsOf B g rs, (∀ s ∈ x, okItem s) ∧ x.length ≤ 40 := fun x hx => by
    obtain ⟨h1, h2⟩ := lsOf_mem hs ok hpos hx
    exact ⟨fun s h => its s (h1 s h), by omega⟩
  have hcert : ∀ o ∈ certF B g, pure0 (dO o) = true := fun o ho => by
    obtain ⟨j, _, rfl⟩ := List.mem_map.mp ho
    cases e : certAt B g j with
    | none => rfl
    | some m => exact item_pure (its m (cert_mem e ok))
  have lsl : (lsOf B g rs).length = rs.length := List.length_map _
  have pl : (posF B g n).length ≤ 40 := by
    unfold posF
    have := List.length_filter_le (fun i => decide (0 < lw B g n i)) (List.range g.length)
    rw [List.length_range] at this; omega
  have cl : (certF B g).length ≤ 40 := by unfold certF; simp; exact gl
  refine ⟨?_, ?_, ?_⟩
  · have h1 : pureAll ((lsOf B g rs).map rowD) = true := pureAll_map _ _ fun x hx => rowD_ok (hrow x hx).1
    have h2 : pureAll ((lsOf B g rs).map fun x => .int (numL B g x)) = true := pureAll_map _ _ fun x _ => by rw [pure0]
    have h3 : pureAll ((posF B g n).map fun i => .int (i : Nat)) = true := pureAll_map _ _ fun x _ => by rw [pure0]
    have h4 : pureAll ((certF B g).map dO) = true := pureAll_map _ _ hcert
    simp only [factL, pureAll, pure0, h1, h2, h3, h4, Bool.and_true]
  · have h1 : smallAll ((lsOf B g rs).map rowD) = true := smallAll_map _ _ fun x hx => by
      unfold rowD
      rw [small0, decide_eq_true (by rw [List.length_map]; have := (hrow x hx).2; omega), smallAll_map _ _ fun s _ => by simp [dS, small0]]; rfl
    have h2 : smallAll ((lsOf B g rs).map fun x => .int (numL B g x)) = true := smallAll_map _ _ fun x _ => by rw [small0]
    have h3 : smallAll ((posF B g n).map fun i => .int (i : Nat)) = true := smallAll_map _ _ fun x _ => by rw [small0]
    have h4 : smallAll ((certF B g).map dO) = true := smallAll_map _ _ fun o _ => by cases o <;> simp [dO, small0]
    have b1 : decide (((lsOf B g rs).map rowD).length ≤ 1000) = true := decide_eq_true (by rw [List.length_map]; omega)
    have b2 : decide (((lsOf B g rs).map fun x => PyData.int (numL B g x)).length ≤ 1000) = true := decide_eq_true (by rw [List.length_map]; omega)
    have b3 : decide (((posF B g n).map fun i => PyData.int (i : Nat)).length ≤ 1000) = true := decide_eq_true (by rw [List.length_map]; omega)
    have b4 : decide (((certF B g).map dO).length ≤ 1000) = true := decide_eq_true (by rw [List.length_map]; omega)
    simp only [factL, smallAll, small0, h1, h2, h3, h4, b1, b2, b3, b4, Bool.and_true, List.length_cons, List.length_nil]
    simp
  · have h1 : PyData.depthAll ((lsOf B g rs).map rowD) ≤ 1 := depthAll_map _ _ _ fun x _ => by
      unfold rowD
      rw [PyData.depth]
      have := depthAll_map x dS 0 fun s _ => by simp [PyData.depth]
      omega
    have h2 : PyData.depthAll ((lsOf B g rs).map fun x => .int (numL B g x)) ≤ 0 := depthAll_map _ _ _ fun x _ => by simp [PyData.depth]
    have h3 : PyData.depthAll ((posF B g n).map fun i => .int (i : Nat)) ≤ 0 := depthAll_map _ _ _ fun x _ => by simp [PyData.depth]
    have h4 : PyData.depthAll ((certF B g).map dO) ≤ 0 := depthAll_map _ _ _ fun o _ => by cases o <;> simp [dO, PyData.depth]
    simp only [factL, PyData.depthAll, PyData.depth]
    omega
theorem factsD_ok (hs : B.ns.Pairwise LtS) (ok : Gok B.ns g) (its : ∀ n ∈ B.ns, okItem n) (few : B.ns.length ≤ 40) (n : Str) (i : Nat) (hr : rs.length ≤ 10) : pure0 (factsD B g n i rs) = true ∧ small0 (factsD B g n i rs) = true ∧ (factsD B g n i rs).depth ≤ 3 := by
  unfold factsD
  split
  · exact ⟨by decide, by decide, by decide⟩
  · rename_i z
    have hpos : 0 < cnt B g := by have := cnt_nonneg B g; omega
    obtain ⟨h1, h2, h3⟩ := factL_ok hs ok its few hpos n i hr
    refine ⟨by rw [pure0]; exact h1, ?_, by rw [PyData.depth]; omega⟩
    rw [small0, h2]
    rfl
end
theorem sok_ren {B : Bd Str} {k : Kd} {rows : List (Str × Int)} {g : Gv Str} (c : Canon k rows B) (h30 : rows.length ≤ 30) (s : Sok rows g) : Sok (rowsN B.ns rows) (gm (fN B.ns) g) := by
  have hl : B.ns.length ≤ 30 := by rw [c.len]; exact h30
  refine ⟨by rw [gm_len, s.len]; unfold rowsN; rw [List.length_map], fun m hm => ?_, ?_⟩
  · obtain ⟨o, ho, e⟩ := List.mem_map.mp hm
    obtain ⟨n, rfl, rfl⟩ := Option.map_eq_some_iff.mp e
    obtain ⟨r, hr, rfl⟩ := List.mem_map.mp (s.mem n ho)
    unfold rowsN
    rw [List.map_map]
    exact List.mem_map.mpr ⟨r, hr, rfl⟩
  · rw [itms_gm]
    refine List.pairwise_map.mpr (List.Pairwise.imp_of_mem (fun {a b} ha hb h e => h ?_) s.one)
    have ma : ∀ x ∈ itms g, x ∈ B.ns := fun x hx => c.perm.mem_iff.mp (s.mem x (itms_get hx))
    exact fN_inj hl (ma a ha) (ma b hb) e
end K21
/-! ## W26 -/
set_option Elab.async false
set_option linter.all false
set_option maxRecDepth 100000
set_option maxHeartbeats 4000000
/-! Other items: the walk. -/
namespace K21
open PySem PySem.Spec PyProof.Rows L2
/-- the scope of the comprehension over rows -/
abbrev rowSc : Scope := { kind := ScopeKind.function, names := [((".0" : Str), NameKind.local), (("_law_row" : Str), NameKind.local), (("_law_new" : Str), NameKind.cell), (("_law_old" : Str), NameKind.cell)], isGenerator := false, isCoroutine := false }
abbrev ownSc : Scope := { kind := ScopeKind.function, names := [((".0" : Str), NameKind.local), (("_law_own" : Str), NameKind.local), (("_law_new" : Str), NameKind.free), (("_law_old" : Str), NameKind.free)], isGenerator := false, isCoroutine := false }
theorem rd_index {K : PySem.W.Frag} {H : Hp} {o : Addr} {ns : List Str} {n : Str} {Q : VK} (h : H o = some (.lst (ns.map V.str))) (hn : n ∈ ns) (q : Q (.int (ns.idxOf n : Nat)) H) : rIndex K (.ref o) [.str n] H Q := by
  have hl := idx_lt hn
  have e : ns[ns.idxOf n]? = some n := List.getElem?_eq_some_iff.mpr ⟨hl, List.getElem_idxOf hl⟩
  refine ⟨o, _, .str n, ns.idxOf n, .str n, rfl, rfl, Evl.sq_of h, rfl, flat_strs ns, by rw [List.getElem?_map, e]; rfl, by simp [eqV], fun m z' hm hz => ?_, q⟩
  rw [List.getElem?_map] at hz
  obtain ⟨s, hs, rfl⟩ := Option.map_eq_some_iff.mp hz
  obtain ⟨lm, em⟩ := List.getElem?_eq_some_iff.mp hs
  have : (ns[m] == n) = false := List.not_of_lt_findIdx (p := (· == n)) (xs := ns) hm
  rw [em] at this
  show (s == n) = false
  exact this
theorem new_at {ns : List Str} {n : Str} (hn : n ∈ ns) (nd : ns.Nodup) : atI (((ns.map (fN ns)).map V.str)) ((ns.idxOf n : Nat) : Int) = some (.str (fN ns n)) := by
  have hl := idx_lt hn
  have e : ns[ns.idxOf n]? = some n := List.getElem?_eq_some_iff.mpr ⟨hl, List.getElem_idxOf hl⟩
  refine atI_nat ?_
  rw [List.getElem?_map, List.getElem?_map, e]; rfl
theorem newL_eq {ns : List Str} (nd : ns.Nodup) : (List.range ns.length).map newOf = ns.map (fN ns) := by
  apply List.ext_getElem?
  intro i
  rw [List.getElem?_map, List.getElem?_map]
  by_cases hi : i < ns.length
  · rw [List.getElem?_range hi, List.getElem?_eq_getElem hi]
    show some (newOf i) = some (newOf (ns.idxOf ns[i]))
    have : ns.idxOf ns[i] = i := by
      have hl := idx_lt (List.getElem_mem hi)
      have e : ns[ns.idxOf ns[i]] = ns[i] := List.getElem_idxOf hl
      exact (List.getElem?_inj (l := ns) (i := ns.idxOf ns[i]) (j := i) hl nd).mp (by rw [List.getElem?_eq_getElem hl, e, List.getElem?_eq_getElem hi])
    rw [this]
  · rw [List.getElem?_eq_none (by simpa using hi), List.getElem?_eq_none (by simpa using hi)]; rfl
theorem six_inv {H : Hp} {xs : List V} {c : Int} {a b d e f : List PyData} (h : DhAll H xs [.int c, .list a, .list b, .list d, .tuple e, .list f]) : ∃ p1 p2 p3 p4 p5 l1 l5, xs = [.int c, .ref p1, .ref p2, .ref p3, .ref p4, .ref p5] ∧
    H p1 = some (.lst l1) ∧ DhAll H l1 a ∧ DhAll H [.ref p2, .ref p3, .ref p4] [.list b, .list d, .tuple e] ∧ H p5 = some (.lst l5) ∧ DhAll H l5 f := by
  cases h with
  | cons h0 h => cases h with
  | cons h1 h => cases h with
  | cons h2 h => cases h with
  | cons h3 h => cases h with
  | cons h4 h => cases h with
  | cons h5 h =>
    cases h
    cases h0
    cases h1 with
    | lst e1 f1 => cases h2 with
    | lst e2 f2 => cases h3 with
    | lst e3 f3 => cases h4 with
    | tup e4 f4 => cases h5 with
    | lst e5 f5 => exact ⟨_, _, _, _, _, _, _, rfl, e1, f1, .cons (.lst e2 f2) (.cons (.lst e3 f3) (.cons (.tup e4 f4) .nil)), e5, f5⟩
theorem eqv_zero {c : Int} {r : List PyData} {x : PyData} : PyData.eqv (.list (.int c :: x :: r)) (.list [.int 0]) = false := by
  simp [PyData.eqv, PyData.eqvAll]
theorem rp_eq {K : PySem.W.Frag} {H : Hp} {v1 v2 : V} {d : PyData} (h1 : Dh H v1 d) (h2 : Dh H v2 d) (hp : pure0 d = true) (hd : d.depth ≤ 64) {Q : VK} (q : Q (.bl true) H) : rEqD K v1 v2 H Q :=
  ⟨d, d, dh_dp _ _ h1, dh_dp _ _ h2, shaped_of hp hd, shaped_of hp hd, by rw [(eqv_iff _ _ hp hp).mpr rfl]; exact q⟩
theorem rp_ne {K : PySem.W.Frag} {H : Hp} {v1 v2 : V} {d : PyData} (h1 : Dh H v1 d) (h2 : Dh H v2 d) (hp : pure0 d = true) (hd : d.depth ≤ 64) {Q : VK} (q : Q (.bl false) H) : rNeD K v1 v2 H Q :=
  ⟨d, d, dh_dp _ _ h1, dh_dp _ _ h2, shaped_of hp hd, shaped_of hp hd, by rw [(eqv_iff _ _ hp hp).mpr rfl]; exact q⟩
theorem fN_ok {ns : List Str} (h30 : ns.length ≤ 30) {x : Str} (hx : x ∈ ns) : okItem (fN ns x) := new_ok _ (by have := idx_lt hx; omega)
theorem dO_inv {H : Hp} {v : V} {o : Option Str} (h : Dh H v (dO o)) : v = vo o := by
  cases o with
  | none => cases h; rfl
  | some n => cases h; rfl
def spRenamed (C : Kd → Addr) : Sp := fun vs H Q _ => ∃ (fa r b c : Addr) (kk : Int) (n : Str) (i : Nat) (rows : List (Str × Int)) (g : Gv Str) (rs : List Int), vs = [.ref fa, .int kk, .ref r, .ref b, .str n, .int (i : Nat), .ref c] ∧ RowsAt H r rows ∧ RowsOk rows ∧ rows ≠ [] ∧ H b = some (.lst (g.map vo)) ∧ Sok rows g ∧ n ∈ rows.map (·.1) ∧ i < rows.length ∧ H c = some (.lst (rs.map V.int)) ∧ rs.length ≤ 10 ∧
  ∀ H', Ex H H' → Q (.bl true) H'
section
variable {P : Program} {w : World} {K : PySem.W.Frag} {mg : Str → Option Value} {base : Heap} {C : Kd → Addr} {CB RC : Addr}
abbrev slaw_renamed_right : Stmt := top 79
abbrev Nlaw_renamed_right : List Str := ["_law_feed_here", "_law_kind", "_law_rows", "_law_sights_here", "_law_name", "_law_spot", "_law_ranks", "_law_old", "_law_new", "_law_other", "_law_views", "_law_one", "_law_fresh", "_law_two", "_law_lists", "_law_sure", "_law_at", "_law_own", "_law_slot", "_law_row"]
theorem sclaw_renamed_right : FnScope Nlaw_renamed_right ["_law_feed_here", "_law_kind", "_law_rows", "_law_sights_here", "_law_name", "_law_spot", "_law_ranks"] (defScope slaw_renamed_right) := ⟨rfl, rfl, rfl, by decide +kernel, rfl, by decide +kernel, by decide +kernel⟩
-- 0 _law_feed_here, 1 _law_kind, 2 _law_rows, 3 _law_sights_here, 4 _law_name, 5 _law_spot, 6 _law_ranks, 7 _law_old*, 8 _law_new*, 9 _law_other, 10 _law_views, 11 _law_one, 12 _law_fresh, 13 _law_two, 14 _law_lists, 15 _law_sure, 16 _law_at, 17 _law_own, 18 _law_slot, 19 _law_row
theorem rowBlk (N : List Str) (sc : Scope) (hN : N = Nlaw_renamed_right) (hs : sc = rowSc) {scope : Scope} (ho : scope = ownSc) : BlkOk N sc scope [("_law_own", 17)] := by
  subst hN hs ho
  exact blkOk_by (by decide +kernel)
theorem cal_renamed (F : DF K mg "_law_renamed_right" slaw_renamed_right ["_law_feed_here", "_law_kind", "_law_rows", "_law_sights_here", "_law_name", "_law_spot", "_law_ranks"]) (T : Txt K mg C CB RC) (c__law_facts : C8.Cal P w K mg base 8 "_law_facts" (spFacts C) []) (c__law_book : C8.Cal P w K mg base 5 "_law_book" (spBook C) []) : C8.Cal P w K mg base 9 "_law_renamed_right" (spRenamed C) [] := by
  refine F.cal sclaw_renamed_right (fun vs H Q E h => ?_) (fun f cdv A outer s H vs Q E hr h => ?_)
  · obtain ⟨fa, r, b, c, kk, n, i, rows, g, rs, rfl, _⟩ := h
    rfl
  · obtain ⟨fa, r, b, c, kk, n, i, rows, g, rs, rfl, hR, ok, hne, hb, sok, hn, hi, hc, hrl, q⟩ := h
    have hR0 := hR
    obtain ⟨ts, hts, hP⟩ := hR
    have hlen := hP.len
    have few := ok.few
    obtain ⟨B, cn⟩ := Canon.exists (k := kdOf kk) ok.nd
    have hl := cn.len
    have nd := asc_nodup cn.asc
    have its : ∀ x ∈ B.ns, okItem x := fun x hx => by
      obtain ⟨r, hr1, rfl⟩ := List.mem_map.mp (cn.perm.mem_iff.mpr hx)
      exact ok.its r hr1
    have okg : Gok B.ns g := gok_sok sok cn.perm
    have hnB : n ∈ B.ns := cn.perm.mem_iff.mp hn
    refine ⟨_, (pss_cons (ps_set (i := 7) sclaw_renamed_right.nd rfl (Or.inr rfl) (pe_callB cr_sortedS (by rfl) T.sorted_ (by decide +kernel) (pa_cons (pe_lc (own := [("_law_own", 17), ("_law_slot", 18)]) rfl sclaw_renamed_right.nd (pi_list_k K (pv 2)) (blkOk_by (N := Nlaw_renamed_right) (sc := defScope slaw_renamed_right) (own := [("_law_own", 17), ("_law_slot", 18)]) (by decide +kernel)) (fun _ _ _ _ _ => (pg_tup_k K (n := 2) rfl (pgs_cons (pg_name (i := 17) sclaw_renamed_right.nd rfl (Or.inl rfl)) (pgs_cons (pg_name (i := 18) sclaw_renamed_right.nd rfl (Or.inl rfl)) pgs_nil)))) (fun _ _ _ _ _ => pts_nil) (fun _ _ _ _ _ => (pv 17))) pa_nil)))
      (pss_cons (ps_set (i := 8) sclaw_renamed_right.nd rfl (Or.inr rfl) (pe_lc (own := [("_law_at", 16)]) rfl sclaw_renamed_right.nd (pi_range1 (by rfl) T.range_ (pa_cons (pe_callB (call_len_k K) (by rfl) T.len_ (by decide +kernel) (pa_cons (pv 7) pa_nil)) pa_nil)) (blkOk_by (N := Nlaw_renamed_right) (sc := defScope slaw_renamed_right) (own := [("_law_at", 16)]) (by decide +kernel)) (fun _ _ _ _ _ => (pg_name (i := 16) sclaw_renamed_right.nd rfl (Or.inl rfl))) (fun _ _ _ _ _ => pts_nil) (fun _ _ _ _ _ => (pe_op op_add_str (pe_ix ix_str pe_str (pe_op op_fdivW (pv 16) pe_int) (fun _ _ => rfl)) (pe_op op_mul_str (pe_ix ix_str pe_str (pe_op op_mod (pv 16) pe_int) (fun _ _ => rfl)) pe_int)))))
      (pss_cons (ps_setLc (i := 9) (own := [("_law_own", 17), ("_law_slot", 18)]) rfl sclaw_renamed_right.nd rfl rfl (sw_true rfl rfl rfl (by decide +kernel)) (pi_list_k K (pv 2)) (blkOk_by (N := Nlaw_renamed_right) (sc := defScope slaw_renamed_right) (own := [("_law_own", 17), ("_law_slot", 18)]) (by decide +kernel)) (fun _ _ _ _ _ => (pg_tup_k K (n := 2) rfl (pgs_cons (pg_name (i := 17) sclaw_renamed_right.nd rfl (Or.inl rfl)) (pgs_cons (pg_name (i := 18) sclaw_renamed_right.nd rfl (Or.inl rfl)) pgs_nil)))) (fun _ _ _ _ _ => pts_nil) (fun _ _ _ _ _ => (pe_tup (pa_cons (pe_ix (ix_list_k K) (pv 8) (pe_bm_k K PySem.F.plainAttrs_list PySem.F.slot_list_index PySem.F.type_list_index (mt_index_k K) (pv 7) (pa_cons (pv 17) pa_nil)) (fun _ _ => rfl)) (pa_cons (pv 18) pa_nil)))))
      (pss_cons (ps_setLc (i := 10) (own := [("_law_own", 17)]) rfl sclaw_renamed_right.nd rfl rfl (sw_true rfl rfl rfl (by decide +kernel)) (pi_list_k K (pv 3)) (blkOk_by (N := Nlaw_renamed_right) (sc := defScope slaw_renamed_right) (own := [("_law_own", 17)]) (by decide +kernel)) (fun _ _ _ _ _ => (pg_name (i := 17) sclaw_renamed_right.nd rfl (Or.inl rfl))) (fun _ _ _ _ _ => pts_nil) (fun _ _ _ _ _ => (pe_ifExp (pt_cmpR op_isN (pv 17) pe_non (nomark _)) pe_non (pe_ix (ix_list_k K) (pv 8) (pe_bm_k K PySem.F.plainAttrs_list PySem.F.slot_list_index PySem.F.type_list_index (mt_index_k K) (pv 7) (pa_cons (pv 17) pa_nil)) (fun _ _ => rfl)))))
      (pss_cons (ps_set (i := 11) sclaw_renamed_right.nd rfl (Or.inl rfl) (C8.pe_c c__law_facts hr (by decide) (by rfl) (pa_cons (C8.pe_c c__law_book hr (by decide) (by rfl) (pa_cons (pe_tup (pa_cons (pv 1) (pa_cons (pv 2) pa_nil))) pa_nil)) (pa_cons (pv 3) (pa_cons (pv 4) (pa_cons (pv 5) (pa_cons (pv 6) pa_nil)))))))
      (pss_cons (ps_set (i := 12) sclaw_renamed_right.nd rfl (Or.inl rfl) (pe_ix (ix_list_k K) (pv 8) (pe_bm_k K PySem.F.plainAttrs_list PySem.F.slot_list_index PySem.F.type_list_index (mt_index_k K) (pv 7) (pa_cons (pv 4) pa_nil)) (fun _ _ => rfl)))
      (pss_cons (ps_set (i := 13) sclaw_renamed_right.nd rfl (Or.inl rfl) (C8.pe_c c__law_facts hr (by decide) (by rfl) (pa_cons (C8.pe_c c__law_book hr (by decide) (by rfl) (pa_cons (pe_tup (pa_cons (pv 1) (pa_cons (pv 9) pa_nil))) pa_nil)) (pa_cons (pv 10) (pa_cons (pv 12) (pa_cons (pv 5) (pa_cons (pv 6) pa_nil)))))))
      (pss_cons (ps_if (PW.pt (pw_or (pt_cmpR (op_eqD_k K (hr_u hr)) (pv 11) (pe_lst (pa_cons pe_int pa_nil)) (nomark _)) (pw_or1 (pt_cmpR (op_eqD_k K (hr_u hr)) (pv 13) (pe_lst (pa_cons pe_int pa_nil)) (nomark _))))) (pss_one (ps_ret (pe_cmpR (op_eqD_k K (hr_u hr)) (pv 11) (pv 13) (nomark _)))) pss_nil)
      (pss_cons (ps_setLc (i := 14) (own := [("_law_row", 19)]) rfl sclaw_renamed_right.nd rfl rfl (sw_true rfl rfl rfl (by decide +kernel)) (pi_list_k K (pe_ix (ix_list_k K) (pv 11) pe_int (fun _ _ => rfl))) (blkOk_by (N := Nlaw_renamed_right) (sc := defScope slaw_renamed_right) (own := [("_law_row", 19)]) (by decide +kernel)) (fun _ _ _ _ _ => (pg_name (i := 19) sclaw_renamed_right.nd rfl (Or.inl rfl))) (fun _ _ _ _ _ => pts_nil) (fun _ _ _ _ _ => (pe_lc (own := [("_law_own", 17)]) rfl sclaw_renamed_right.nd (pi_list_k K (pv 19)) (rowBlk _ _ rfl rfl rfl) (fun _ _ _ _ _ => (pg_name (i := 17) sclaw_renamed_right.nd rfl (Or.inl rfl))) (fun _ _ _ _ _ => pts_nil) (fun _ _ _ _ _ => (pe_ix (ix_list_k K) (pv 8) (pe_bm_k K PySem.F.plainAttrs_list PySem.F.slot_list_index PySem.F.type_list_index (mt_index_k K) (pv 7) (pa_cons (pv 17) pa_nil)) (fun _ _ => rfl))))))
      (pss_cons (ps_if (PW.pt (pw_or (pt_cmpR op_ne (pe_ix (ix_list_k K) (pv 11) pe_int (fun _ _ => rfl)) (pe_ix (ix_list_k K) (pv 13) pe_int (fun _ _ => rfl)) (nomark _)) (pw_or (pt_cmpR (op_neD_k K (hr_u hr)) (pv 14) (pe_ix (ix_list_k K) (pv 13) pe_int (fun _ _ => rfl)) (nomark _)) (pw_or1 (pt_cmpR (op_neD_k K (hr_u hr)) (pe_slice sl_list (pv 11) (po_some pe_int) (po_some pe_int)) (pe_slice sl_list (pv 13) (po_some pe_int) (po_some pe_int)) (nomark _)))))) (pss_one (ps_ret pe_bl)) pss_nil)
      (pss_cons (ps_setLc (i := 15) (own := [("_law_own", 17)]) rfl sclaw_renamed_right.nd rfl rfl (sw_true rfl rfl rfl (by decide +kernel)) (pi_list_k K (pe_ix (ix_list_k K) (pv 11) pe_int (fun _ _ => rfl))) (blkOk_by (N := Nlaw_renamed_right) (sc := defScope slaw_renamed_right) (own := [("_law_own", 17)]) (by decide +kernel)) (fun _ _ _ _ _ => (pg_name (i := 17) sclaw_renamed_right.nd rfl (Or.inl rfl))) (fun _ _ _ _ _ => pts_nil) (fun _ _ _ _ _ => (pe_ifExp (pt_cmpR op_isN (pv 17) pe_non (nomark _)) pe_non (pe_ix (ix_list_k K) (pv 8) (pe_bm_k K PySem.F.plainAttrs_list PySem.F.slot_list_index PySem.F.type_list_index (mt_index_k K) (pv 7) (pa_cons (pv 17) pa_nil)) (fun _ _ => rfl)))))
      (pss_one (ps_ret (pe_cmpR (op_eqD_k K (hr_u hr)) (pv 15) (pe_ix (ix_list_k K) (pv 13) pe_int (fun _ _ => rfl)) (nomark _))))))))))))))), ?_⟩
    -- old
    refine ⟨_, rfl, r, rfl, ⟨_, Evl.sq_of hts⟩, fun D1 hD1 => ?_⟩
    refine lcP (walk_list (xs := ts)) (fun i => (rows[i]?).map fun o => V.str o.1) hD1 (by omega) (fun H1 e => Evl.sq_of (e _ _ hts)) (fun i x H1 H' Qy Qn hi e y k1 k2 => ?_) fun H1 e1 h1 => ?_
    · obtain ⟨rfl, hx⟩ := y
      obtain ⟨t, n, c, rfl, hrow, ht⟩ := hP.at_ i x hx
      refine ⟨t, _, rfl, .inl (.inl (e _ _ ht)), rfl, _, _, rfl, _, _, rfl, rfl, rfl, ?_⟩
      refine iteT (B := Qn H') ⟨_, rfl, k1 _ _ (Evl.Ex.refl _) ?_⟩
      rw [hrow]; rfl
    have eS : (List.range ts.length).filterMap (fun i => (rows[i]?).map fun o => V.str o.1) = (rows.map (·.1)).map V.str := by
      rw [hlen, List.map_map]
      exact range_get rows _ _ fun i x hx => by rw [hx]; rfl
    rw [eS] at h1
    try unfold tNil
    refine ⟨D1, rows.map (·.1), rfl, Evl.sq_of h1, by rw [List.length_map]; omega, fun ys O hys hsy hO => ?_⟩
    have eys : ys = B.ns := sorted_the hsy (hys.trans cn.perm) cn.asc
    subst eys
    have e2 : Ex H1 (upd H1 O (.lst (B.ns.map V.str))) := Evl.Ex.new hO
    have gO : upd H1 O (.lst (B.ns.map V.str)) O = some (.lst (B.ns.map V.str)) := upd_same
    generalize upd H1 O (.lst (B.ns.map V.str)) = H2 at e2 gO ⊢
    have e02 := e1.trans e2
    -- new
    refine ⟨_, rfl, O, _, rfl, .inl (Evl.sq_of gO), (B.ns.map V.str).length, rfl, (by rw [List.length_map]; omega), (by rw [List.length_map]; omega), fun N hN => ?_⟩
    have lm : (B.ns.map V.str).length = B.ns.length := List.length_map _
    refine lcP (walk_range (n := (B.ns.map V.str).length)) (fun i => some (V.str (newOf i))) hN (by omega) (fun _ _ => trivial) (fun j x H3 H' Qy Qn hj e y k1 k2 => ?_) fun H3 e3 h3 => ?_
    · obtain ⟨rfl, ey⟩ := y
      have ey : x = .int (j : Nat) := by rw [ey]; show V.int (0 + _) = _; rw [Int.zero_add]
      subst ey
      have hj30 : j < 30 := by omega
      have hlog : (5 : Int).natAbs.log2 < 9000 := by decide
      refine ⟨rfl, yes_if ?_⟩
      refine ⟨_, rfl, _, _, rfl, rfl, ⟨by omega, hlog⟩, _, _, _, rfl, rfl, by decide, new_a1 j hj30, ?_⟩
      refine ⟨_, rfl, _, _, rfl, rfl, by omega, _, _, _, rfl, rfl, by decide, new_a2 j hj30, _, _, rfl, rfl, by omega, by omega, rfl, ?_⟩
      exact ⟨_, _, rfl, rfl, Nat.le_trans (new_len j hj30) (by decide), k1 _ _ (Evl.Ex.refl _) rfl⟩
    rw [lm] at h3
    have eN : (List.range B.ns.length).filterMap (fun i => some (V.str (newOf i))) = (B.ns.map (fN B.ns)).map V.str := by
      rw [fm_map, newL_eq nd]
    rw [eN] at h3
    have gO3 := e3 _ _ gO
    have e03 := e02.trans e3
    have rdn : ∀ (Hx : Hp) (x : Str) (R : VK), Ex H3 Hx → x ∈ B.ns → R (.str (fN B.ns x)) Hx → rIndex K (.ref O) [.str x] Hx fun y H2 => rIxL K (.ref N) y H2 R := fun Hx x R e hx q => by
      refine rd_index (e _ _ gO3) hx ?_
      exact ⟨N, _, _, _, rfl, rfl, Evl.sq_of (e _ _ h3), new_at hx nd, q⟩
    have hts3 := e03 _ _ hts
    have hb3 := e03 _ _ hb
    have fl30 : B.ns.length ≤ 30 := by omega
    -- other rows
    refine ⟨_, rfl, r, rfl, ⟨_, Evl.sq_of hts3⟩, fun R2 hR2 => ?_⟩
    refine lcA (walk_list (xs := ts)) (fun i acc H4 => PairsIn H4 acc ((rowsN B.ns rows).take i)) hR2 (by omega) (fun H4 e => Evl.sq_of (e _ _ hts3)) PairsIn.nil (fun i acc H4 h => ?_) (fun i acc H4 H5 h e => h.ex e) (fun j x H4 H' acc Qy Qn hj e hacc hAc y k1 k2 => ?_) fun H4 acc e4 h4 hAc => ?_
    · rw [h.len, List.length_take]; omega
    · obtain ⟨rfl, hx⟩ := y
      obtain ⟨t, m, cc, rfl, hrow, ht⟩ := hP.at_ j x hx
      have hm : m ∈ B.ns := cn.perm.mem_iff.mp (List.mem_map.mpr ⟨(m, cc), List.mem_of_getElem? hrow, rfl⟩)
      refine ⟨t, _, rfl, .inl (.inl ((e03.trans e) _ _ ht)), rfl, _, _, rfl, _, _, rfl, rfl, rfl, ?_⟩
      refine iteT (B := Qn H') ?_
      refine ⟨_, rfl, _, rfl, .inl ⟨rfl, _, Evl.sq_of (e _ _ gO3)⟩, _, rfl, rdn _ m _ e hm ?_⟩
      refine ⟨_, rfl, (by show 2 ≤ sizeLine; decide), fun u hu => ?_⟩
      have eu : Ex H' (upd H' u (.tup [.str (fN B.ns m), .int cc])) := Evl.Ex.new hu
      have nu : u ≠ R2 := fun z => by rw [z, hacc] at hu; cases hu
      refine k1 _ _ eu ?_
      have hr2 : (rowsN B.ns rows)[j]? = some (fN B.ns m, cc) := by unfold rowsN; rw [List.getElem?_map, hrow]; rfl
      rw [List.take_add_one, hr2]
      exact PairsIn.snoc (hAc.ex (del_ex eu)) (by rw [del_ne nu, upd_same])
    have hR2' : RowsAt H4 R2 (rowsN B.ns rows) := by
      refine ⟨acc, h4, ?_⟩
      have := hAc.ex del_sub
      rwa [hlen, show rows.length = (rowsN B.ns rows).length from (List.length_map _).symm, List.take_length] at this
    have e04 := e03.trans e4
    have hb4 := e04 _ _ hb
    -- views
    refine ⟨_, rfl, b, rfl, ⟨_, Evl.sq_of hb4⟩, fun W hW => ?_⟩
    refine lcP (walk_list (xs := g.map vo)) (fun j => (g[j]?).map fun o : Option Str => vo (o.map (fN B.ns))) hW (by rw [List.length_map, sok.len]; omega) (fun H5 e => Evl.sq_of (e _ _ hb4)) (fun j x H5 H' Qy Qn hj e y k1 k2 => ?_) fun H5 e5 h5 => ?_
    · obtain ⟨rfl, hx⟩ := y
      obtain ⟨o, ho, rfl⟩ := get_vo hx
      refine ⟨rfl, yes_if ?_⟩
      refine ⟨_, rfl, rfl, ?_⟩
      cases o with
      | none =>
        refine ⟨true, rfl, iteT (k1 _ _ (Evl.Ex.refl _) ?_)⟩
        rw [ho]; rfl
      | some m =>
        refine ⟨false, rfl, iteF ?_⟩
        refine ⟨_, rfl, _, rfl, .inl ⟨rfl, _, Evl.sq_of ((e4.trans e) _ _ gO3)⟩, _, rfl, rdn _ m _ (e4.trans e) (okg.mem m (List.mem_of_getElem? ho)) (k1 _ _ (Evl.Ex.refl _) ?_)⟩
        rw [ho]; rfl
    have eV : (List.range (g.map vo).length).filterMap (fun j => (g[j]?).map fun o : Option Str => vo (o.map (fN B.ns))) = (gm (fN B.ns) g).map vo := by
      rw [List.length_map]
      unfold gm
      rw [List.map_map]
      exact range_get g _ _ fun j x hx => by rw [hx]; rfl
    rw [eV] at h5
    have e05 := e04.trans e5
    -- one
    refine ⟨_, rfl, _, rfl, (by show 2 ≤ sizeLine; decide), fun t1 ht1 => ?_⟩
    have e6 : Ex H5 (upd H5 t1 (.tup [.int kk, .ref r])) := Evl.Ex.new ht1
    have g6 : upd H5 t1 (.tup [.int kk, .ref r]) t1 = some (.tup [.int kk, .ref r]) := upd_same
    generalize upd H5 t1 (.tup [.int kk, .ref r]) = H6 at e6 g6 ⊢
    have e06 := e05.trans e6
    refine ⟨t1, r, kk, rows, rfl, g6, hR0.ex e06, ok, fun bk H7 hbk e7 hB => ?_⟩
    have e07 := e06.trans e7
    have few40 : rows.length ≤ 40 := by omega
    refine ⟨_, rfl, _, rfl, _, rfl, _, rfl, bk, b, c, n, i, kdOf kk, rows, g, B, rs, rfl, ⟨hB, hne, few40, ok.nd, ok.its, e07 _ _ hb, sok, cn⟩, hnB, by rw [hl]; exact hi, e07 _ _ hc, hrl, fun q1 H8 hq1 e8 hD8 => ?_⟩
    have hD8 := dh_ex del_sub _ _ (hD8 c (by rw [e07 _ _ hc]; exact fun y => by cases y))
    have e08 := e07.trans e8
    have e38 : Ex H3 H8 := ((e4.trans e5).trans e6).trans (e7.trans e8)
    -- fresh
    refine ⟨_, rfl, _, rfl, .inl ⟨rfl, _, Evl.sq_of (e38 _ _ gO3)⟩, _, rfl, rdn _ n _ e38 hnB ?_⟩
    -- two
    refine ⟨_, rfl, _, rfl, (by show 2 ≤ sizeLine; decide), fun t2 ht2 => ?_⟩
    have e9 : Ex H8 (upd H8 t2 (.tup [.int kk, .ref R2])) := Evl.Ex.new ht2
    have g9 : upd H8 t2 (.tup [.int kk, .ref R2]) t2 = some (.tup [.int kk, .ref R2]) := upd_same
    generalize upd H8 t2 (.tup [.int kk, .ref R2]) = H9 at e9 g9 ⊢
    have e49 : Ex H4 H9 := (e5.trans e6).trans ((e7.trans e8).trans e9)
    have cnN := canonN cn (by omega)
    have okN : RowsOk (rowsN B.ns rows) := by
      refine ⟨by unfold rowsN; rw [List.length_map]; exact few, cnN.perm.nodup_iff.mpr (asc_nodup cnN.asc), fun x hx => ?_, fun x hx => ?_⟩
      · obtain ⟨y, hy, rfl⟩ := List.mem_map.mp hx
        exact fN_ok fl30 (cn.perm.mem_iff.mp (List.mem_map.mpr ⟨y, hy, rfl⟩))
      · obtain ⟨y, hy, rfl⟩ := List.mem_map.mp hx
        exact ok.sl y hy
    refine ⟨t2, R2, kk, rowsN B.ns rows, rfl, g9, hR2'.ex e49, okN, fun bk2 H10 hbk2 e10 hB2 => ?_⟩
    have e5a : Ex H5 H10 := (e6.trans e7).trans ((e8.trans e9).trans e10)
    have e010 := e05.trans e5a
    have neN : rowsN B.ns rows ≠ [] := fun z => hne (by unfold rowsN at z; exact List.map_eq_nil_iff.mp z)
    have ln : (bdN B).ns.length = B.ns.length := List.length_map _
    refine ⟨_, rfl, _, rfl, _, rfl, _, rfl, bk2, W, c, fN B.ns n, i, kdOf kk, rowsN B.ns rows, gm (fN B.ns) g, bdN B, rs, rfl, ⟨hB2, neN, by unfold rowsN; rw [List.length_map]; exact few40, okN.nd, okN.its, e5a _ _ h5, sok_ren cn few sok, cnN⟩, List.mem_map.mpr ⟨n, hnB, rfl⟩, by rw [ln, hl]; exact hi, e010 _ _ hc, hrl, fun q2 H11 hq2 e11 hD11 => ?_⟩
    have hD11 := dh_ex del_sub _ _ (hD11 c (by rw [e010 _ _ hc]; exact fun y => by cases y))
    have e811 : Ex H8 H11 := (e9.trans e10).trans e11
    have hD8' := dh_ex e811 _ _ hD8
    have e011 := e010.trans e11
    have ren := bdN_ren cn.asc fl30
    have rc := ren_cnt ren (gin_of okg)
    obtain ⟨pu1, _, de1⟩ := factsD_ok (rs := rs) cn.asc okg its (by omega) n i hrl
    refine ⟨_, rfl, (by show 1 ≤ sizeLine; decide), fun z1 hz1 => ?_⟩
    have e12 : Ex H11 (upd H11 z1 (.lst [.int 0])) := Evl.Ex.new hz1
    have g12 : upd H11 z1 (.lst [.int 0]) z1 = some (.lst [.int 0]) := upd_same
    generalize upd H11 z1 (.lst [.int 0]) = H12 at e12 g12 ⊢
    have dz : Dh H12 (.ref z1) (.list [.int 0]) := .lst g12 (.cons (.int 0) .nil)
    have pz : pure0 (.list [.int 0]) = true := by decide
    have hD12 := dh_ex e12 _ _ hD8'
    have hE12 := dh_ex e12 _ _ hD11
    by_cases z : cnt B g = 0
    · have d1 : factsD B g n i rs = .list [.int 0] := by unfold factsD; rw [if_pos z]
      have d2 : factsD (bdN B) (gm (fN B.ns) g) (fN B.ns n) i rs = .list [.int 0] := by unfold factsD; rw [rc, if_pos z]
      rw [d1] at hD12
      rw [d2] at hE12
      refine rp_eq hD12 dz pz (by decide) ⟨true, rfl, iteT (iteT ?_)⟩
      refine ⟨_, rfl, _, rfl, rp_eq hD12 hE12 pz (by decide) (q _ (e011.trans e12))⟩
    · have hpos : 0 < cnt B g := by have := cnt_nonneg B g; omega
      have d1 : factsD B g n i rs = .list (factL B g n i rs) := by unfold factsD; rw [if_neg z]
      have d2 : factsD (bdN B) (gm (fN B.ns) g) (fN B.ns n) i rs = .list (factL (bdN B) (gm (fN B.ns) g) (fN B.ns n) i rs) := by unfold factsD; rw [rc, if_neg z]
      have pu2 := (factsD_ok (rs := rs) cnN.asc (gok_sok (sok_ren cn few sok) cnN.perm) (fun x hx => by
        obtain ⟨y, hy, rfl⟩ := List.mem_map.mp hx
        exact fN_ok fl30 hy) (by rw [ln]; omega) (fN B.ns n) i hrl)
      rw [d1] at hD12 pu1 de1
      rw [d2, factL_ren cn.asc fl30 okg hpos hnB] at hE12 pu2
      obtain ⟨pu2, _, de2⟩ := pu2
      have sh1 : SeqAt.shaped (.list (factL B g n i rs)) = true := shaped_of pu1 (by omega)
      have shz : SeqAt.shaped (.list [.int 0]) = true := by decide
      have sh2 := shaped_of pu2 (by omega)
      refine ⟨_, _, dh_dp _ _ hD12, dh_dp _ _ dz, sh1, shz, ?_⟩
      unfold factL
      rw [eqv_zero]
      refine ⟨false, rfl, iteF ?_⟩
      refine ⟨_, rfl, (by show 1 ≤ sizeLine; decide), fun z2 hz2 => ?_⟩
      have e13 : Ex H12 (upd H12 z2 (.lst [.int 0])) := Evl.Ex.new hz2
      have g13 : upd H12 z2 (.lst [.int 0]) z2 = some (.lst [.int 0]) := upd_same
      generalize upd H12 z2 (.lst [.int 0]) = H13 at e13 g13 ⊢
      have hD13 := dh_ex e13 _ _ hD12
      have hE13 := dh_ex e13 _ _ hE12
      refine ⟨_, _, dh_dp _ _ hE13, dh_dp _ _ (.lst g13 (.cons (.int 0) .nil)), sh2, shz, ?_⟩
      rw [eqv_zero]
      refine ⟨false, rfl, iteF ?_⟩
      -- what stands in them
      obtain ⟨x1, hx1, ha1⟩ : ∃ x1, H13 q1 = some (.lst x1) ∧ DhAll H13 x1 (factL B g n i rs) := by
        cases hD13 with
        | lst h1 h2 => exact ⟨_, h1, h2⟩
      obtain ⟨x2, hx2, ha2⟩ : ∃ x2, H13 q2 = some (.lst x2) ∧ DhAll H13 x2 _ := by
        cases hE13 with
        | lst h1 h2 => exact ⟨_, h1, h2⟩
      unfold factL at ha1 pu1
      obtain ⟨p1, p2, p3, p4, p5, l1, l5, rfl, hp1, hl1, hmid1, hp5, hl5⟩ := six_inv ha1
      obtain ⟨q11, q12, q13, q14, q15, m1, m5, rfl, hq11, hm1, hmid2, hq15, hm5⟩ := six_inv ha2
      have e313 : Ex H3 H13 := e38.trans (e811.trans (e12.trans e13))
      have e013 := e011.trans (e12.trans e13)
      have lsx : ∀ x ∈ lsOf B g rs, ∀ s ∈ x, s ∈ B.ns := fun x hx => (lsOf_mem cn.asc okg hpos hx).1
      have lslen : ∀ x ∈ lsOf B g rs, x.length = B.ns.length := fun x hx => (lsOf_mem cn.asc okg hpos hx).2
      have l1l := dha_len hl1
      rw [List.length_map] at l1l
      have lsl : (lsOf B g rs).length = rs.length := List.length_map _
      -- lists
      refine ⟨_, rfl, q1, _, _, .ref p1, rfl, rfl, Evl.sq_of hx1, atI_nat (j := 1) rfl, p1, rfl, ⟨_, Evl.sq_of hp1⟩, fun M hM => ?_⟩
      refine lcA (walk_list (xs := l1)) (fun j acc H14 => DhAll H14 acc (((lsOf B g rs).take j).map fun x : List Str => rowD (x.map (fN B.ns)))) hM (by omega) (fun H14 e => Evl.sq_of (e _ _ hp1)) .nil (fun j acc H14 h => ?_) (fun j acc H14 H15 h e => dha_ex e _ _ h) (fun j x H14 H' acc Qy Qn hj e hacc hAc y k1 k2 => ?_) fun H14 acc e14 h14 hAc => ?_
      · rw [dha_len h, List.length_map, List.length_take]; omega
      · obtain ⟨rfl, hx⟩ := y
        obtain ⟨d, hd, hxd⟩ := dha_get hl1 hx
        rw [List.getElem?_map] at hd
        obtain ⟨row, hrow, rfl⟩ := Option.map_eq_some_iff.mp hd
        obtain ⟨pr, rfl, hpr⟩ := dh_row hxd
        have hmr := List.mem_of_getElem? hrow
        refine ⟨rfl, yes_if ?_⟩
        refine ⟨_, rfl, pr, rfl, ⟨_, Evl.sq_of (e _ _ hpr)⟩, fun M2 hM2 => ?_⟩
        refine lcP (walk_list (xs := row.map V.str)) (fun j => (row[j]?).map fun s => V.str (fN B.ns s)) hM2 (by rw [List.length_map, lslen row hmr]; omega) (fun H15 e' => Evl.sq_of (e' _ _ (e _ _ hpr))) (fun j2 x2 H15 H16 Qy2 Qn2 hj2 e' y2 k12 k22 => ?_) fun H15 e15 h15 => ?_
        · obtain ⟨rfl, hx2⟩ := y2
          rw [List.getElem?_map] at hx2
          obtain ⟨s2, hs2, rfl⟩ := Option.map_eq_some_iff.mp hx2
          refine ⟨rfl, yes_if ?_⟩
          refine ⟨_, rfl, _, rfl, .inl ⟨rfl, _, Evl.sq_of ((e313.trans (e.trans e')) _ _ gO3)⟩, _, rfl, rdn _ s2 _ (e313.trans (e.trans e')) (lsx row hmr s2 (List.mem_of_getElem? hs2)) (k12 _ _ (Evl.Ex.refl _) ?_)⟩
          rw [hs2]; rfl
        · have eS2 : (List.range (row.map V.str).length).filterMap (fun j => (row[j]?).map fun s => V.str (fN B.ns s)) = (row.map (fN B.ns)).map V.str := by
            rw [List.length_map, List.map_map]
            exact range_get row _ _ fun j x hx => by rw [hx]; rfl
          rw [eS2] at h15
          refine k1 _ _ e15 ?_
          have nM : M2 ≠ M := fun z => by rw [z, hacc] at hM2; cases hM2
          rw [List.take_add_one, hrow, List.map_append]
          exact dha_append (dha_ex (del_ex e15) _ _ hAc) (.cons (dh_strs (by rw [del_ne nM]; exact h15)) .nil)
      have hls14 : Dh H14 (.ref M) (.list ((lsOf B g rs).map fun x : List Str => rowD (x.map (fN B.ns)))) := by
        have := dha_ex del_sub _ _ hAc
        rw [l1l, List.take_length] at this
        exact .lst h14 this
      have hq11' : Dh H14 (.ref q11) (.list ((lsOf B g rs).map fun x : List Str => rowD (x.map (fN B.ns)))) := .lst (e14 _ _ hq11) (dha_ex e14 _ _ hm1)
      have pul : pure0 (.list ((lsOf B g rs).map fun x : List Str => rowD (x.map (fN B.ns)))) = true := by
        rw [pure0]
        exact pureAll_map _ _ fun x hx => rowD_ok fun s hs => by
          obtain ⟨s0, hs0, rfl⟩ := List.mem_map.mp hs
          exact fN_ok fl30 (lsx x hx s0 hs0)
      have del : PyData.depth (.list ((lsOf B g rs).map fun x : List Str => rowD (x.map (fN B.ns)))) ≤ 64 := by
        rw [PyData.depth]
        have := depthAll_map (lsOf B g rs) (fun x : List Str => rowD (x.map (fN B.ns))) 1 fun x _ => by
          unfold rowD
          rw [PyData.depth]
          have := depthAll_map (x.map (fN B.ns)) dS 0 fun s _ => by simp [PyData.depth]
          omega
        omega
      have hx14 := e14 _ _ hx1
      have hy14 := e14 _ _ hx2
      refine ⟨_, rfl, q1, _, _, .int (cnt B g), rfl, rfl, Evl.sq_of hx14, atI_nat (j := 0) rfl, _, rfl, q2, _, _, .int (cnt B g), rfl, rfl, Evl.sq_of hy14, atI_nat (j := 0) rfl, rfl, false, ?_, iteF ?_⟩
      · exact bl_f (by simp)
      refine ⟨_, rfl, _, rfl, q2, _, _, .ref q11, rfl, rfl, Evl.sq_of hy14, atI_nat (j := 1) rfl, rp_ne hls14 hq11' pul del ⟨false, rfl, iteF ?_⟩⟩
      refine ⟨_, rfl, _, rfl, _, rfl, q1, _, rfl, Evl.sq_of hx14, fun c1 hc1 => ?_⟩
      have e15 : Ex H14 (upd H14 c1 (.lst (cutV [.int (cnt B g), .ref p1, .ref p2, .ref p3, .ref p4, .ref p5] (some 2) (some 5)))) := Evl.Ex.new hc1
      have g15 : upd H14 c1 (.lst (cutV [.int (cnt B g), .ref p1, .ref p2, .ref p3, .ref p4, .ref p5] (some 2) (some 5))) c1 = some (.lst [.ref p2, .ref p3, .ref p4]) := upd_same
      generalize upd H14 c1 (.lst (cutV [.int (cnt B g), .ref p1, .ref p2, .ref p3, .ref p4, .ref p5] (some 2) (some 5))) = H15 at e15 g15 ⊢
      refine ⟨_, rfl, _, rfl, _, rfl, q2, _, rfl, Evl.sq_of (e15 _ _ hy14), fun c2 hc2 => ?_⟩
      have e16 : Ex H15 (upd H15 c2 (.lst (cutV [.int (cnt B g), .ref q11, .ref q12, .ref q13, .ref q14, .ref q15] (some 2) (some 5)))) := Evl.Ex.new hc2
      have g16 : upd H15 c2 (.lst (cutV [.int (cnt B g), .ref q11, .ref q12, .ref q13, .ref q14, .ref q15] (some 2) (some 5))) c2 = some (.lst [.ref q12, .ref q13, .ref q14]) := upd_same
      generalize upd H15 c2 (.lst (cutV [.int (cnt B g), .ref q11, .ref q12, .ref q13, .ref q14, .ref q15] (some 2) (some 5))) = H16 at e16 g16 ⊢
      have e1316 : Ex H13 H16 := e14.trans (e15.trans e16)
      have pum : pure0 (.list [.list ((lsOf B g rs).map fun x => .int (numL B g x)), .list ((posF B g n).map fun i => .int (i : Nat)), .tuple [.int (lowT (lw B g n i) (cnt B g)).1, .int (lowT (lw B g n i) (cnt B g)).2]]) = true := by
        have h2 : pureAll ((lsOf B g rs).map fun x => .int (numL B g x)) = true := pureAll_map _ _ fun x _ => by rw [pure0]
        have h3 : pureAll ((posF B g n).map fun i => .int (i : Nat)) = true := pureAll_map _ _ fun x _ => by rw [pure0]
        simp only [pureAll, pure0, h2, h3, Bool.and_true]
      have dem : PyData.depth (.list [.list ((lsOf B g rs).map fun x => .int (numL B g x)), .list ((posF B g n).map fun i => .int (i : Nat)), .tuple [.int (lowT (lw B g n i) (cnt B g)).1, .int (lowT (lw B g n i) (cnt B g)).2]]) ≤ 64 := by
        have h2 : PyData.depthAll ((lsOf B g rs).map fun x => .int (numL B g x)) ≤ 0 := depthAll_map _ _ _ fun x _ => by simp [PyData.depth]
        have h3 : PyData.depthAll ((posF B g n).map fun i => .int (i : Nat)) ≤ 0 := depthAll_map _ _ _ fun x _ => by simp [PyData.depth]
        simp only [PyData.depthAll, PyData.depth]
        omega
      refine rp_ne (.lst (e16 _ _ g15) (dha_ex e1316 _ _ hmid1)) (.lst g16 (dha_ex e1316 _ _ hmid2)) pum dem ⟨false, rfl, iteF ?_⟩
      -- sure
      have hp516 := e1316 _ _ hp5
      have l5l := dha_len hl5
      rw [List.length_map] at l5l
      have cfl : (certF B g).length = g.length := by unfold certF; simp
      have gl := sok.len
      refine ⟨_, rfl, q1, _, _, .ref p5, rfl, rfl, Evl.sq_of (e1316 _ _ hx1), atI_nat (j := 5) rfl, p5, rfl, ⟨_, Evl.sq_of hp516⟩, fun Z hZ => ?_⟩
      refine lcP (walk_list (xs := l5)) (fun j => ((certF B g)[j]?).map fun o : Option Str => vo (o.map (fN B.ns))) hZ (by omega) (fun H17 e => Evl.sq_of (e _ _ hp516)) (fun j x H17 H' Qy Qn hj e y k1 k2 => ?_) fun H17 e17 h17 => ?_
      · obtain ⟨rfl, hx⟩ := y
        obtain ⟨d, hd, hxd⟩ := dha_get hl5 hx
        rw [List.getElem?_map] at hd
        obtain ⟨o, ho, rfl⟩ := Option.map_eq_some_iff.mp hd
        have := dO_inv hxd
        subst this
        refine ⟨rfl, yes_if ?_⟩
        refine ⟨_, rfl, rfl, ?_⟩
        cases o with
        | none =>
          refine ⟨true, rfl, iteT (k1 _ _ (Evl.Ex.refl _) ?_)⟩
          rw [ho]; rfl
        | some m =>
          have hmB : m ∈ B.ns := by
            obtain ⟨j0, _, hj0⟩ := List.mem_map.mp (List.mem_of_getElem? ho)
            exact cert_mem hj0 okg
          refine ⟨false, rfl, iteF ?_⟩
          refine ⟨_, rfl, _, rfl, .inl ⟨rfl, _, Evl.sq_of ((e313.trans (e1316.trans e)) _ _ gO3)⟩, _, rfl, rdn _ m _ (e313.trans (e1316.trans e)) hmB (k1 _ _ (Evl.Ex.refl _) ?_)⟩
          rw [ho]; rfl
      have eC : (List.range l5.length).filterMap (fun j => ((certF B g)[j]?).map fun o : Option Str => vo (o.map (fN B.ns))) = (certF B g).map fun o : Option Str => vo (o.map (fN B.ns)) := by
        rw [l5l]
        exact range_get (certF B g) _ _ fun j x hx => by rw [hx]; rfl
      rw [eC] at h17
      have e1317 := e1316.trans e17
      have hz1' : Dh H17 (.ref Z) (.list ((certF B g).map fun o : Option Str => dO (o.map (fN B.ns)))) := .lst h17 (dha_map _ _ _ fun o _ => dh_vo _)
      have hz2' : Dh H17 (.ref q15) (.list ((certF B g).map fun o : Option Str => dO (o.map (fN B.ns)))) := .lst (e1317 _ _ hq15) (dha_ex e1317 _ _ hm5)
      have puc : pure0 (.list ((certF B g).map fun o : Option Str => dO (o.map (fN B.ns)))) = true := by
        rw [pure0]
        refine pureAll_map _ _ fun o ho => ?_
        cases o with
        | none => rfl
        | some m =>
          obtain ⟨j0, _, hj0⟩ := List.mem_map.mp ho
          exact item_pure (fN_ok fl30 (cert_mem hj0 okg))
      have dec : PyData.depth (.list ((certF B g).map fun o : Option Str => dO (o.map (fN B.ns)))) ≤ 64 := by
        rw [PyData.depth]
        have := depthAll_map (certF B g) (fun o : Option Str => dO (o.map (fN B.ns))) 0 fun o _ => by cases o <;> simp [dO, PyData.depth]
        omega
      refine ⟨_, rfl, _, rfl, q2, _, _, .ref q15, rfl, rfl, Evl.sq_of (e1317 _ _ hx2), atI_nat (j := 5) rfl, rp_eq hz1' hz2' puc dec (q _ (e013.trans e1317))⟩
end
end K21
/-! ## S2 -/
set_option maxHeartbeats 4000000
set_option Elab.async false
set_option linter.all false
set_option maxRecDepth 100000
/-! The machine's run over threads that are calm, or hand out over a sleeping delegate of which nothing shows. -/
namespace K21
open PySem
section
variable (den : Code → Sem PySem.Fin) (prog : Program) (w : World)
/-- a suspension of which nothing shows while nothing is registered -/
def softly (h : Heap) (t : Thread) : Bool := match t.cur, splitAtGen t.stack with
  | .yield _ g _ _, some (fs, _, _) => !fs.any Frame.guarded && (!g || match t.code with
    | .builtin "proto.yield_from" ⟨.ref a :: _, _⟩ => (h.get? a).any fun o => o.genNumber?.isSome
    | _ => false)
  | _, _ => false
def mild (h : Heap) (t : Thread) : Bool := t.calm || softly h t
theorem soft_shows {s : Shared} {t : Thread} (hr : s.heap.life.registered = []) (h : softly s.heap t = true) :
    ∃ v g l k fs b rest, t.cur = .yield v g l k ∧ splitAtGen t.stack = some (fs, b, rest) ∧ closingShows s fs t.code g = false := by
  obtain ⟨cur, code, pos, stack⟩ := t
  unfold softly at h
  cases cur with
  | yield v g l k =>
    cases e : splitAtGen stack with
    | none => simp [e] at h
    | some x =>
      obtain ⟨fs, b, rest⟩ := x
      refine ⟨v, g, l, k, fs, b, rest, rfl, rfl, ?_⟩
      simp only [e, Bool.and_eq_true, Bool.not_eq_true'] at h
      obtain ⟨h1, h2⟩ := h
      unfold closingShows
      rw [h1]
      cases g with
      | false => rfl
      | true =>
        simp only [Bool.not_true, Bool.false_or] at h2
        simp only [Bool.false_or, Bool.true_and]
        split at h2
        · rename_i a r kw
          cases ho : s.heap.get? a with
          | none => simp [ho] at h2
          | some o =>
            simp only [ho, Option.any_some] at h2
            obtain ⟨n, hn⟩ := Option.isSome_iff_exists.mp h2
            simp [delegateShows, ho, hn, hr]
        · exact absurd h2 (by simp)
  | _ => simp at h
theorem soft_sstep {s : Shared} {t : Thread} (hz : s.asleep) (h : softly s.heap t = true) : sstep den prog w (.single s t) = (step den prog w s t).lift := by
  obtain ⟨hr, hc⟩ := hz
  obtain ⟨v, g, l, k, fs, b, rest, e1, e2, e3⟩ := soft_shows hr h
  obtain ⟨cur, code, pos, stack⟩ := t
  subst e1
  have h1 : (Config.single s ⟨.yield v g l k, code, pos, stack⟩).collect? w.params = none := by
    simp [Config.collect?, Config.single, (nothing_to_collect w.params _ _ s _ hr).1]
  have h2 : (Config.single s ⟨.yield v g l k, code, pos, stack⟩).collectable = [] := by
    simp [Config.collectable, Config.single, (nothing_to_collect w.params _ _ s _ hr).2]
  have h3 : (Config.single s ⟨.yield v g l k, code, pos, stack⟩).moves w.params.profile = [.run 0] := by
    simp_all [Config.moves, Config.single, movesFrom, Thread.moves, Thread.atomic, Thread.rests, Thread.tells]
  have h4 : (Config.single s ⟨.yield v g l k, code, pos, stack⟩).pick w = .ok (.run 0, .single s ⟨.yield v g l k, code, pos, stack⟩) := by
    simp only [Config.pick, h1, h2, Config.pickThread, h3]
    cases w.params.lifetimes <;> simp
  have h5 : ∀ others, lifeStep den prog w others s ⟨.yield v g l k, code, pos, stack⟩ = step den prog w s ⟨.yield v g l k, code, pos, stack⟩ := fun others => by
    unfold lifeStep
    have q : (⟨.yield v g l k, code, pos, stack⟩ : Thread).atItsEnd = false := rfl
    split
    · simp only [collectorTurn?, e2, q]
      have e3' : closingShows s fs code g = false := e3
      simp [e3', stepCounting, hc]
    · simp [stepCounting, hc]
  have h6 : (⟨.yield v g l k, code, pos, stack⟩ : Thread).finalizes = false := rfl
  unfold sstep
  rw [h4]
  simp only [Config.move, Config.run, Config.single, entering_same]
  simp only [List.getElem?_toArray, List.getElem?_cons_zero, if_true, h6, Bool.and_false, Bool.false_eq_true, if_false, others_single, h5, ite_self]
  cases hs : step den prog w s ⟨.yield v g l k, code, pos, stack⟩ with
  | go s' t' => simp [Step.lift, Config.single]
  | halt o s' => rfl
theorem mild_forget {h : Heap} {t u : Thread} (e : t.forget = u.forget) (hm : mild h t = true) : mild h u = true := by
  have q : ∀ x : Thread, mild h x.forget = mild h x := fun x => by
    obtain ⟨cur, code, pos, stack⟩ := x
    unfold mild
    rw [Thread.calm_forget]
    congr 1
    unfold softly
    simp only [Thread.forget]
    cases cur with
    | yield v g l k =>
      simp only [splitAtGen_forgetAll]
      cases splitAtGen stack with
      | none => rfl
      | some x => simp
    | _ => rfl
  rw [← q, ← e, q]
  exact hm
end
/-- the machine comes, in mild threads -/
inductive Go (M : Model) : Shared → Thread → Shared → Thread → Prop
  | refl {s t} : Go M s t s t
  | step {s t s₁ t₁ s' t'} : mild s.heap t = true → stepK M.den M.prog M.w s t = .go s₁ t₁ → Go M s₁ t₁ s' t' → Go M s t s' t'
theorem Go.trans {M : Model} {s t s₁ t₁ s' t'} (a : Go M s t s₁ t₁) (b : Go M s₁ t₁ s' t') : Go M s t s' t' := by
  induction a with
  | refl => exact b
  | step h1 h2 _ ih => exact .step h1 h2 (ih b)
theorem go_real {M : Model} {r : Result} {s th s' th'} (h : Go M s th s' th') : ∀ {c p}, th' = ⟨leafOf r, c, p, []⟩ → leftWithCleanup s'.gens = false → ∀ {σ : Shared} {τ : Thread}, σ.forget = s.forget → τ.forget = th.forget → σ.asleep →
    ∃ n s'', schedN M.den M.prog M.w n (.single σ τ) = .halted (outcomeOf r) s'' ∧ s''.forget = s'.forget ∧ s''.heap.life = σ.heap.life := by
  induction h with
  | @refl s t =>
    intro c p e hl σ τ es et hz
    subst e
    obtain ⟨cur, code, pos, stack⟩ := τ
    simp only [Thread.forget, Thread.mk.injEq] at et
    obtain ⟨rfl, rfl, rfl, e4⟩ := et
    have e5 : stack = [] := by cases stack with | nil => rfl | cons x xs => simp at e4
    subst e5
    have hl2 : leftWithCleanup σ.gens = false := by rw [leftWithCleanup_of_forget_eq es]; exact hl
    have hs : step M.den M.prog M.w σ ⟨leafOf r, code, pos, []⟩ = .halt (outcomeOf r) σ := by
      obtain ⟨heap, gens, drawn, toks, os⟩ := σ
      have hl3 : leftWithCleanup gens = false := hl2
      cases r <;> simp [leafOf, step, finish, hl3, outcomeOf]
    have hc : (⟨leafOf r, code, pos, []⟩ : Thread).calm = true := by cases r <;> rfl
    rcases sstep_single M.den M.prog M.w σ _ hc hz with e | e
    · refine ⟨1, σ, ?_, es, rfl⟩
      simp only [schedN, e, hs, Step.lift]
    · rw [hs] at e
      cases r <;> simp [outcomeOf] at e
  | @step s t s₁ t₁ s' t' hm hs _ ih =>
    intro c p e hl σ τ es et hz
    have eh : σ.heap = s.heap := (Shared.forget_eq es).1
    have hm2 : mild σ.heap τ = true := by rw [eh]; exact mild_forget et.symm hm
    have q := (step_same M.den M.prog M.w es et).trans ((stepK_forget M.den M.prog M.w s t).symm)
    rw [hs] at q
    cases hx : PySem.step M.den M.prog M.w σ τ with
    | halt o s₂ => rw [hx] at q; cases q
    | go σ₁ τ₁ =>
      rw [hx] at q
      simp only [Step.forget, Step.go.injEq] at q
      have hss : sstep M.den M.prog M.w (.single σ τ) = .go (.single σ₁ τ₁) := by
        unfold mild at hm2
        rcases Bool.or_eq_true_iff.mp hm2 with hc | hc
        · rcases sstep_single M.den M.prog M.w σ τ hc hz with e2 | e2
          · rw [e2, hx]; rfl
          · rw [hx] at e2; cases e2
        · rw [soft_sstep M.den M.prog M.w hz hc, hx]; rfl
      have lf := step_life M.den M.prog M.w σ σ₁ τ τ₁ hx
      obtain ⟨n, s'', h1, h2, h3⟩ := ih e hl q.1 q.2 (Shared.asleep_of_life lf hz)
      refine ⟨n + 1, s'', ?_, h2, h3.trans lf⟩
      simp only [schedN, hss]
      exact h1
end K21
/-! ## S3 -/
set_option maxHeartbeats 4000000
set_option Elab.async false
set_option linter.all false
set_option maxRecDepth 100000
/-! What wp proves, as a run; the triple over runs. -/
namespace K21
open PySem
open Sem (wp)
section
variable {M : Model}
theorem Go.one {s t s₁ t₁ s' t'} (h : M.step s t = .go s₁ t₁) (x : Go M s₁ t₁ s' t') : Go M s t s' t' := by
  cases hl : t.loud with
  | true => rw [M.step_loud hl] at h; cases h
  | false =>
    rw [M.step_quiet hl] at h
    refine .step ?_ h x
    unfold mild
    rw [Thread.calm_eq, hl]
    cases hr : t.refused with
    | false => rfl
    | true =>
      obtain ⟨what, e⟩ := stepK_refused M.den M.prog M.w (s := s) hr
      rw [e] at h; cases h
theorem go_of_comes {s th s' th'} (h : PySem.Comes M s th s' th') : Go M s th s' th' := by
  obtain ⟨n, hn⟩ := h
  induction n generalizing s th with
  | zero => injection hn with e1 e2; subst e1 e2; exact .refl
  | succ n ih =>
    rw [runN_succ] at hn
    cases hs : M.step s th with
    | go s₂ t₂ => rw [hs] at hn; exact .one hs (ih hn)
    | halt o s₂ => rw [hs] at hn; cases hn
/-- it comes to what stands behind the tree -/
def Lands {α : Type} (M : Model) (c : Code) (st : List Frame) (K : α → Sem PySem.Fin) (H : Value → Sem PySem.Fin) (Q : α → Pos → Shared → Prop) (E : Value → Pos → Shared → Prop) (s : Shared) (th : Thread) : Prop :=
  (∃ a s' p', Go M s th s' ⟨K a, c, p', st⟩ ∧ Q a p' s') ∨ ∃ e s' p', Go M s th s' ⟨H e, c, p', st⟩ ∧ E e p' s'
section
variable {α : Type} {c : Code} {st : List Frame} {K : α → Sem PySem.Fin} {H : Value → Sem PySem.Fin} {Q : α → Pos → Shared → Prop} {E : Value → Pos → Shared → Prop}
theorem Lands.after {s s₁ : Shared} {th th₁ : Thread} (g : Go M s th s₁ th₁) : Lands M c st K H Q E s₁ th₁ → Lands M c st K H Q E s th
  | .inl ⟨a, s', p', h, q⟩ => .inl ⟨a, s', p', g.trans h, q⟩
  | .inr ⟨a, s', p', h, q⟩ => .inr ⟨a, s', p', g.trans h, q⟩
theorem Lands.via {s s₁ : Shared} {th th₁ : Thread} (g : M.step s th = .go s₁ th₁) (x : Lands M c st K H Q E s₁ th₁) : Lands M c st K H Q E s th := x.after (.one g .refl)
end
theorem lands_of_wp {α : Type} {Γ : Ctx} {st : List Frame} (hf : Γ.Fits st) (K : α → Sem PySem.Fin) (H : Value → Sem PySem.Fin) (gd lv) (Q : α → Pos → Shared → Prop) (E : Value → Pos → Shared → Prop) (m : Sem α) :
    ∀ (p : Pos) (s : Shared), wp M Γ m Q E p s → Lands M Γ.code st K H Q E s ⟨m.wrap K H gd lv, Γ.code, p, st⟩ := by
  induction m with
  | pure a => exact fun p s h => .inl ⟨a, s, p, .refl, h⟩
  | raise e => exact fun p s h => .inr ⟨e, s, p, .refl, h⟩
  | unsupported _ => exact fun _ _ h => False.elim h
  | finish _ => exact fun _ _ h => False.elim h
  | register _ _ _ => exact fun _ _ h => False.elim h
  | yield _ _ _ _ _ => exact fun _ _ h => False.elim h
  | fork _ _ _ => exact fun _ _ h => False.elim h
  | await _ _ _ _ _ _ => exact fun _ _ h => False.elim h
  | rule _ _ ih => exact fun p s h => (ih () p s h).via (step_rule ..)
  | «at» q _ ih => exact fun p s h => (ih () q s h).via (step_at ..)
  | point _ _ ih => exact fun p s h => (ih () p s h).via (step_point ..)
  | load _ _ _ ih => exact fun p s ⟨o, ho, h⟩ => (ih o p s h).via (step_load _ _ _ _ _ _ _ ho)
  | update _ _ _ _ ih => exact fun p s ⟨ha, h⟩ => (ih () p _ h).via (step_update _ _ _ _ _ _ _ _ ha)
  | loadIfAlive _ _ ih => exact fun p s h => (ih _ p s h).via (step_loadIfAlive ..)
  | alloc _ _ ih => exact fun p s h => (ih _ p _ h).via (step_alloc ..)
  | fresh _ ih => exact fun p s h => (ih _ p _ h).via (step_fresh ..)
  | ask _ ih => exact fun p s h => (ih _ p s h).via (step_ask ..)
  | choose _ _ _ ih => exact fun p s ⟨hn, h⟩ => (ih _ p _ h).via (step_choose _ _ _ _ _ _ _ hn)
  | os _ _ _ ih => exact fun p s h => (ih _ p _ h).via (step_os ..)
  | genState _ _ ih => exact fun p s ⟨_, hg, h⟩ => (ih _ p s h).via (step_genState _ _ _ _ _ _ hg)
  | newGen _ _ ih => exact fun p s h => (ih _ p _ h).via (step_newGen ..)
  | thread _ ih => exact fun p s h => (ih _ p s h).via (step_thread ..)
  | stack k ih =>
    intro p s h
    have e : M.step s ⟨.stack fun x => (k x).wrap K H gd lv, Γ.code, p, st⟩ = .go s ⟨(k ((Γ.code, p) :: Γ.below)).wrap K H gd lv, Γ.code, p, st⟩ := by rw [step_stack, hf.below]
    exact (ih _ p s h).via e
  | handled own k ih =>
    intro p s h
    have e : M.step s ⟨.handled own fun x => (k x).wrap K H gd lv, Γ.code, p, st⟩ = .go s ⟨(k (if own then Γ.own else Γ.handled)).wrap K H gd lv, Γ.code, p, st⟩ := by
      rw [step_handled]
      cases own with
      | false => rw [hf.handled]; rfl
      | true => rw [hf.own]; rfl
    exact (ih _ p s h).via e
  | call c h g l k ih =>
    intro p s ⟨r, s₁, hr, h2⟩
    obtain ⟨t', c', p', pre', hc, hx⟩ := (runs_reach hr _ (hf.enter c (fun x => (k x).wrap K H gd lv) h (gd g) (lv l) p [])).comes
    obtain ⟨rfl, rfl⟩ := hx
    exact (((ih r p s₁ h2).via (step_leaf_ret ..)).after (go_of_comes hc)).via (step_call ..)
  | resume g r l k ih =>
    intro p s ⟨res, s₁, hw, h2⟩
    exact (ih res p s₁ h2).after (go_of_comes (wakes_comes hf (lv l) (fun x => (k x).wrap K H gd lv) hw))

/-! ### the triple -/
/-- from s the tree comes to its end, whatever stands behind it -/
def RunsOn {α : Type} (M : Model) (A : Around) (m : Sem α) (Q : α → Shared → Prop) (E : Value → Shared → Prop) (s : Shared) : Prop :=
  ∀ (Γ : Ctx) (st : List Frame) (K : α → Sem PySem.Fin) (H : Value → Sem PySem.Fin) (gd lv) (p : Pos), Γ.In A → Γ.Fits st → Lands M Γ.code st K H (fun a _ => Q a) (fun e _ => E e) s ⟨m.wrap K H gd lv, Γ.code, p, st⟩
variable {A : Around} {α β : Type} {s : Shared}
theorem on_of {m : Sem α} {Q : α → Shared → Prop} {E : Value → Shared → Prop} (h : wpAny M A m Q E s) : RunsOn M A m Q E s :=
  fun Γ st K H gd lv p hi hf => lands_of_wp hf K H gd lv _ _ m p s (h Γ p hi)
theorem on_wrap {m : Sem α} {f : α → Sem β} {g : Value → Sem β} {gd' lv'} {Q : β → Shared → Prop} {E : Value → Shared → Prop}
    (h : RunsOn M A m (fun a s' => RunsOn M A (f a) Q E s') (fun x s' => RunsOn M A (g x) Q E s') s) : RunsOn M A (m.wrap f g gd' lv') Q E s := fun Γ st K H gd lv p hi hf => by
  rw [Sem.wrap_wrap]
  rcases h Γ st _ _ (fun b => gd (gd' b)) (fun l => lv (lv' l)) p hi hf with ⟨a, s', p', h1, h2⟩ | ⟨a, s', p', h1, h2⟩
  · exact (h2 Γ st K H gd lv p' hi hf).after h1
  · exact (h2 Γ st K H gd lv p' hi hf).after h1
theorem on_pure {a : α} {Q : α → Shared → Prop} {E : Value → Shared → Prop} (h : Q a s) : RunsOn M A (pure a) Q E s := fun Γ st K H gd lv p hi hf => .inl ⟨a, s, p, .refl, h⟩
theorem on_raise {x : Value} {Q : α → Shared → Prop} {E : Value → Shared → Prop} (h : E x s) : RunsOn M A (.raise x) Q E s := fun Γ st K H gd lv p hi hf => .inr ⟨x, s, p, .refl, h⟩
theorem on_bind {m : Sem α} {f : α → Sem β} {Q : β → Shared → Prop} {E : Value → Shared → Prop} (h : RunsOn M A m (fun a s' => RunsOn M A (f a) Q E s') E s) : RunsOn M A (m >>= f) Q E s := by
  rw [Sem.bind_eq_wrap']
  refine on_wrap fun Γ st K H gd lv p hi hf => ?_
  rcases h Γ st K H gd lv p hi hf with ⟨a, s', p', h1, h2⟩ | ⟨a, s', p', h1, h2⟩
  · exact .inl ⟨a, s', p', h1, h2⟩
  · exact .inr ⟨a, s', p', h1, on_raise h2⟩
theorem on_mono {m : Sem α} {Q Q' : α → Shared → Prop} {E E' : Value → Shared → Prop} (h : RunsOn M A m Q E s) (hQ : ∀ a s', Q a s' → Q' a s') (hE : ∀ a s', E a s' → E' a s') : RunsOn M A m Q' E' s := fun Γ st K H gd lv p hi hf => by
  rcases h Γ st K H gd lv p hi hf with ⟨a, s', p', h1, h2⟩ | ⟨a, s', p', h1, h2⟩
  · exact .inl ⟨a, s', p', h1, hQ _ _ h2⟩
  · exact .inr ⟨a, s', p', h1, hE _ _ h2⟩
end
end K21
/-! ## S4 -/
set_option maxHeartbeats 4000000
set_option Elab.async false
set_option linter.all false
set_option maxRecDepth 100000
/-! The triple of a code. -/
namespace K21
open PySem
open Sem (wp)
section
variable {M : Model} {A : Around} {α β : Type} {s : Shared}
/-- from s the code comes to its result -/
def CodeOn (M : Model) (A : Around) (c : Code) (R : Result → Shared → Prop) (s : Shared) : Prop :=
  ∀ (Γ : Ctx) (st : List Frame) (p : Pos), Γ.code = c → Γ.Below A → Γ.Fits st → ∃ r s' c' p', Go M s ⟨M.den c, c, p, st⟩ s' ⟨leafOf r, c', p', st⟩ ∧ R r s'
theorem code_of {c : Code} {R : Result → Shared → Prop} (h : codeAny M A c R s) : CodeOn M A c R s := by
  rintro Γ st p rfl hb hf
  obtain ⟨r, s', hr, hR⟩ := h Γ p rfl hb
  obtain ⟨t', c', p', pre', hc, hx⟩ := (runs_reach hr _ hf).comes
  obtain ⟨rfl, rfl⟩ := hx
  exact ⟨r, s', c', p', go_of_comes hc, hR⟩
theorem code_mono {c : Code} {R R' : Result → Shared → Prop} (h : CodeOn M A c R s) (hR : ∀ r s', R r s' → R' r s') : CodeOn M A c R' s := fun Γ st p hc hb hf =>
  let ⟨r, s', c', p', h1, h2⟩ := h Γ st p hc hb hf; ⟨r, s', c', p', h1, hR _ _ h2⟩
theorem wrap_self (m : Sem α) : m.wrap .pure .raise id id = m := by rw [← Sem.bind_eq_wrap, Sem.bind_pure]
theorem code_tree {c : Code} {R : Result → Shared → Prop}
    (h : RunsOn M (A.under c) (M.den c) (fun fin s' => match fin with | .done f => R (.ok f) s' | .again c' => c'.quiet = true ∧ CodeOn M A c' R s') (fun e s' => R (.error e) s') s) : CodeOn M A c R s := by
  rintro Γ st p rfl hb hf
  have q := h Γ st .pure .raise id id p hb.in hf
  rw [wrap_self] at q
  rcases q with ⟨fin, s', p', h1, h2⟩ | ⟨e, s', p', h1, h2⟩
  · cases fin with
    | done f => exact ⟨.ok f, s', _, p', h1, h2⟩
    | again c' =>
      obtain ⟨hq, h3⟩ := h2
      obtain ⟨r, s2, c2, p2, h4, h5⟩ := h3 (Γ.goto c') st p' rfl (hb.goto c') (hf.goto c')
      exact ⟨r, s2, c2, p2, h1.trans (.one (step_again _ _ _ _ _ _ hq) h4), h5⟩
  · exact ⟨.error e, s', _, p', h1, h2⟩
/-- a call in a tree -/
theorem on_code {c : Code} {h : Option Value} {g : Bool} {l : List Value} {k : Result → Sem α} {Q : α → Shared → Prop} {E : Value → Shared → Prop} (hnb : h ≠ some byPass)
    (hc : CodeOn M (A.mark h) c (fun r s' => RunsOn M A (k r) Q E s') s) : RunsOn M A (.call c h g l k) Q E s := fun Γ st K H gd lv p hi hf => by
  obtain ⟨r, s', c', p', h1, h2⟩ := hc (Γ.enter c h p) (.ret (fun x => (k x).wrap K H gd lv) h (gd g) (lv l) Γ.code p [] :: st) p rfl (hi.enter c h p hnb) (hf.enter c _ h _ _ p [])
  refine Lands.via (step_call ..) (Lands.after h1 (Lands.via (step_leaf_ret ..) (h2 Γ st K H gd lv p hi hf)))
theorem on_runValue {c : Code} {Q : Value → Shared → Prop} {E : Value → Shared → Prop} (hc : CodeOn M A c (fun r s' => match r with | .ok (.ret v) => Q v s' | .ok _ => False | .error e => E e s') s) : RunsOn M A (runValue c) Q E s := by
  refine on_code (h := none) (by intro x; cases x) ?_
  refine code_mono hc fun r s' hr => ?_
  cases r with
  | error e => exact on_raise hr
  | ok f =>
    cases f with
    | ret v => exact on_pure hr
    | next => exact hr.elim
    | brk => exact hr.elim
    | cont => exact hr.elim
theorem on_call {f : Value} {pos : List Value} {kw : List (Str × Value)} {Q : Value → Shared → Prop} {E : Value → Shared → Prop} (hc : CodeOn M A (.call f ⟨pos, kw⟩) (fun r s' => match r with | .ok (.ret v) => Q v s' | .ok _ => False | .error e => E e s') s) : RunsOn M A (call f pos kw) Q E s := on_runValue hc
theorem on_at {p : Pos} {k : Unit → Sem α} {Q : α → Shared → Prop} {E : Value → Shared → Prop} (h : RunsOn M A (k ()) Q E s) : RunsOn M A (.at p k) Q E s := fun Γ st K H gd lv p' hi hf =>
  (h Γ st K H gd lv p hi hf).via (step_at ..)
theorem on_point {l : List Value} {k : Unit → Sem α} {Q : α → Shared → Prop} {E : Value → Shared → Prop} (h : RunsOn M A (k ()) Q E s) : RunsOn M A (.point l k) Q E s := fun Γ st K H gd lv p' hi hf =>
  (h Γ st K H gd lv p' hi hf).via (step_point ..)
theorem on_rule {t : String} {k : Unit → Sem α} {Q : α → Shared → Prop} {E : Value → Shared → Prop} (h : RunsOn M A (k ()) Q E s) : RunsOn M A (.rule t k) Q E s := fun Γ st K H gd lv p' hi hf =>
  (h Γ st K H gd lv p' hi hf).via (step_rule ..)
theorem on_tryCatch {m : Sem α} {f : Value → Sem α} {Q : α → Shared → Prop} {E : Value → Shared → Prop} (h : RunsOn M A m Q (fun x s' => RunsOn M A (f x) Q E s') s) : RunsOn M A (m.tryCatch f) Q E s := by
  rw [Sem.tryCatch_eq_wrap]
  exact on_wrap (on_mono h (fun _ _ q => on_pure q) fun _ _ q => q)
theorem on_keep {m : Sem α} {vs : List Value} {Q : α → Shared → Prop} {E : Value → Shared → Prop} (h : RunsOn M A m Q E s) : RunsOn M A (m.keep vs) Q E s := by
  rw [Sem.keep_eq_wrap]
  exact on_wrap (on_mono h (fun _ _ q => on_pure q) fun _ _ q => on_raise q)
theorem on_onRaise {m : Sem α} {f : Value → Sem Unit} {Q : α → Shared → Prop} {E : Value → Shared → Prop} (h : RunsOn M A m Q (fun x s' => RunsOn M A (f x) (fun _ s'' => E x s'') E s') s) : RunsOn M A (m.onRaise f) Q E s := by
  rw [Sem.onRaise_eq_wrap]
  exact on_wrap (on_mono h (fun _ _ q => on_pure q) fun x s' q => on_bind (on_mono q (fun _ _ z => on_raise z) fun _ _ z => z))
/-- the whole run, at the caller of the claim -/
theorem on_ends {prog : Program} {w : World} {t : Sem PySem.Fin} {R : Result → Shared → Prop} (hz : s.asleep) (hin : (Ctx.of (.builtin "claim.caller" {}) []).In A)
    (h : RunsOn (model prog w) A t (fun fin s' => ∃ f, fin = .done f ∧ R (.ok f) s' ∧ leftWithCleanup s'.gens = false) (fun e s' => R (.error e) s' ∧ leftWithCleanup s'.gens = false) s) :
    ∃ n r s' s'', schedN (denote table) prog w n (.single s ⟨t, .builtin "claim.caller" {}, default, []⟩) = .halted (outcomeOf r) s'' ∧ s''.forget = s'.forget ∧ s''.heap.life = s.heap.life ∧ R r s' := by
  have q := h _ [] .pure .raise id id default hin (Ctx.fits_of _ [])
  rw [wrap_self] at q
  rcases q with ⟨fin, s', p', h1, f, rfl, h2, h3⟩ | ⟨e, s', p', h1, h2, h3⟩
  · obtain ⟨n, s'', a, b, c⟩ := go_real (r := .ok f) h1 rfl h3 rfl rfl hz
    exact ⟨n, .ok f, s', s'', a, b, c, h2⟩
  · obtain ⟨n, s'', a, b, c⟩ := go_real (r := .error e) h1 rfl h3 rfl rfl hz
    exact ⟨n, .error e, s', s'', a, b, c, h2⟩
end
end K21
/-! ## S5 -/
set_option maxHeartbeats 4000000
set_option Elab.async false
set_option linter.all false
set_option maxRecDepth 100000
/-! The statements of the spine. -/
namespace K21
open PySem PySem.Spec PyProof.Rows L2
open Sem (wp)
section
variable {M : Model} {A : Around} {α β : Type} {s : Shared} {env : Env}
abbrev NoE : Value → Shared → Prop := fun _ _ => False
/-- an exception whose leaving cannot end is none -/
theorem on_none {m : Sem α} {Q : α → Shared → Prop} {E : Value → Shared → Prop} {γ : Value → Type} {t : ∀ e, Sem (γ e)} (h : RunsOn M A m Q (fun e s' => wpAny M A (t e) (fun _ _ => False) NoE s') s) : RunsOn M A m Q E s := fun Γ st K H gd lv p hi hf => by
  rcases h Γ st K H gd lv p hi hf with ⟨a, s', p', h1, h2⟩ | ⟨e, s', p', h1, h2⟩
  · exact .inl ⟨a, s', p', h1, h2⟩
  · rcases lands_of_wp hf (fun _ => .raise .none) .raise id id _ _ (t e) p' s' (h2 Γ p' hi) with ⟨_, _, _, _, x⟩ | ⟨_, _, _, _, x⟩ <;> exact x.elim
theorem on_noE {m : Sem α} {Q : α → Shared → Prop} {E : Value → Shared → Prop} (h : RunsOn M A m Q NoE s) : RunsOn M A m Q E s := on_mono h (fun _ _ q => q) fun _ _ q => q.elim
theorem on_stand {p : Pos} {f : Unit → Sem β} {Q : β → Shared → Prop} {E : Value → Shared → Prop} (h : RunsOn M A (f ()) Q E s) : RunsOn M A (standAt p >>= f) Q E s := on_at (p := p) (k := f) h
theorem on_execs_nil {Q : Flow → Shared → Prop} {E : Value → Shared → Prop} (h : Q .next s) : RunsOn M A (execs [] env) Q E s := on_pure h
theorem on_execs_cons {st : Stmt} {rest : List Stmt} {Q : Flow → Shared → Prop} {E : Value → Shared → Prop}
    (h : RunsOn M A (exec st env) (fun f s' => match f with | .next => RunsOn M A (execs rest env) Q E s' | f => Q f s') E s) : RunsOn M A (execs (st :: rest) env) Q E s := by
  rw [execs_cons]
  refine on_bind (on_mono h (fun f s' hf => ?_) fun _ _ q => q)
  cases f with
  | next => exact hf
  | brk => exact on_pure hf
  | cont => exact on_pure hf
  | ret v => exact on_pure hf
theorem on_If {test : Expr} {body orelse : List Stmt} {pos : Pos} {Q : Flow → Shared → Prop} {E : Value → Shared → Prop}
    (h : RunsOn M A (isTrue test env (eval test env)) (fun b s' => if b = true then RunsOn M A (execs body env) Q E s' else RunsOn M A (execs orelse env) Q E s') E s) : RunsOn M A (exec (.If test body orelse pos) env) Q E s := by
  rw [exec_If]
  refine on_stand (on_bind (on_mono h (fun b s' hb => ?_) fun _ _ q => q))
  cases b with
  | true => exact hb
  | false => exact hb
theorem on_Return {e : Expr} {pos : Pos} {Q : Flow → Shared → Prop} {E : Value → Shared → Prop} (h : RunsOn M A (eval e env) (fun v s' => Q (.ret v) s') E s) : RunsOn M A (exec (.Return (some e) pos) env) Q E s := by
  rw [exec_Return_some]
  exact on_stand (on_bind (on_mono h (fun b s' hb => on_pure hb) fun _ _ q => q))
theorem on_Set {x : Str} {e : Expr} {pos' pos : Pos} {Q : Flow → Shared → Prop} {E : Value → Shared → Prop} (hs : swapsWith e (some (.Name x pos')) pos.line env = pure false)
    (h : RunsOn M A (eval e env) (fun v s' => wpAny M A (storeName env x v) (fun _ => Q .next) E s') E s) : RunsOn M A (exec (.Assign [.Name x pos'] e pos) env) Q E s := by
  rw [exec_Assign_Name env x pos' e pos hs]
  refine on_stand (on_bind (on_mono h (fun v s' hv => on_stand (on_bind ?_)) fun _ _ q => q))
  exact on_of (wpAny_bindName (wpAny_mono hv (fun _ _ q => on_pure q) fun _ _ q => q))
end
section
variable {prog : Program} {w : World} {A : Around} {s : Shared}
/-- a def's frame -/
theorem code_func {body : List Stmt} {env : Env} {R : Result → Shared → Prop} (h : RunsOn (model prog w) (A.deeper env) (execs body env) (fun f s' => R (.ok (.ret (match f with | .ret v => v | _ => .none))) s') NoE s) :
    CodeOn (model prog w) A (.func body env) R s := by
  refine code_tree ?_
  show RunsOn _ (A.deeper env) (do point; match ← (execs body env).onRaise (leaving env) with | .ret v => ret v | _ => ret .none) _ _ s
  refine on_bind (on_of (wpAny_point ?_))
  refine on_bind (on_onRaise (on_mono h (fun f s' h' => ?_) fun _ _ h' => h'.elim))
  cases f with
  | next => exact on_pure h'
  | brk => exact on_pure h'
  | cont => exact on_pure h'
  | ret v => exact on_pure h'
/-- a def is called -/
theorem code_def {R : Result → Shared → Prop} {a : Addr} {args : Args} {o : Obj} {fd : FuncData} {body : List Stmt} (hroom : A.depth < recursionLimit) (ho : s.heap.get? a = some o)
    (hd' : o.data = .func fd) (hco : fd.scope.isCoroutine = false) (hgen : fd.scope.isGenerator = false) (hbody : fd.body = .stmts body) (hcd : s.heap.CodeRec fd.code fd.qualname)
    (h : wpAny (model prog w) A.in1 (bindArgs fd args) (fun binds s₁ =>
      wpAny (model prog w) A.in1 (newFunctionEnv fd.scope fd.globals fd.closure binds (fd.qualname ++ ".<locals>.") (some a) fd.code none fd.builtins)
        (fun env s₂ => s₂.heap.NoLimit ∧ CodeOn (model prog w) A (.func body env) R s₂) NoE s₁) NoE s) :
    CodeOn (model prog w) A (.call (.ref a) args) R s := by
  refine code_tree (on_noE (on_of ?_))
  show wpAny _ A.in1 (callAny (.ref a) args) _ _ s
  simp only [callAny]
  refine wpAny_bind (wpAny_load ho ?_)
  obtain ⟨c, oc, vs, tq, hc, hoc, hdc, hq⟩ := hcd
  simp only [hd', callFunction, hco, hgen, hbody, hc]
  rw [hc] at h
  refine wpAny_bind (m := field (.ref c) 1) (wpAny_field hoc hdc hq (wpAny_bind (wpAny_pure ?_)))
  refine wpAny_bind (thn h fun binds s₁ h₁ => ?_)
  refine wpAny_bind (thn h₁ fun env s₂ h₂ => ?_)
  exact wpAny_bind (wpAny_enterFrame h₂.1 hroom (wpAny_pure ⟨rfl, h₂.2⟩))
end
end K21
/-! ## S6 -/
set_option maxHeartbeats 4000000
set_option Elab.async false
set_option linter.all false
set_option maxRecDepth 100000
/-! The for loop of the spine; a def by its body. -/
namespace K21
open PySem PySem.Spec PyProof.Rows L2
open Sem (wp)
section
variable {prog : Program} {w : World} {A : Around} {s : Shared} {env : Env} {target iter : Expr} {body : List Stmt}
theorem code_for {R : Result → Shared → Prop} {it : Value} (I : Nat → Shared → Prop)
    (turn : ∀ n s, I n s → RunsOn (model prog w) A (pyNext it) (fun r s₁ => match r with
      | none => R (.ok .next) s₁
      | some v => RunsOn (model prog w) A (letOwnedTupleGo target it v) (fun _ s₂ => RunsOn (model prog w) A (assign target env v) (fun _ s₃ => RunsOn (model prog w) A (execs body env) (fun f s₄ => match f with
        | .next | .cont => ∃ m, m < n ∧ I m s₄
        | .brk => R (.ok .next) s₄
        | .ret v => R (.ok (.ret v)) s₄) NoE s₃) NoE s₂) NoE s₁) NoE s) : ∀ (n : Nat) {s : Shared}, I n s → CodeOn (model prog w) A (.forLoop target it body [] env) R s := by
  intro n
  induction n using Nat.strongRecOn with
  | ind n ih =>
    intro s hI
    refine code_tree ?_
    show RunsOn _ A ((forTurn target it body [] env).onRaise (fun x => do noteFrame x env; theTreesLotGoes x)) _ _ s
    refine on_onRaise (on_mono (Q := fun fin s' => match fin with | .done f => R (.ok f) s' | .again c' => c'.quiet = true ∧ CodeOn (model prog w) A c' R s') (E := NoE) ?_ (fun _ _ q => q) fun _ _ q => q.elim)
    unfold forTurn
    refine on_stand (on_bind (on_onRaise (on_mono (turn n s hI) (fun r s₁ h₁ => ?_) fun _ _ q => q.elim)))
    cases r with
    | none => exact on_pure ⟨rfl, code_of (codeAny_block (wpAny_execs_nil h₁))⟩
    | some v =>
      refine on_bind (on_mono h₁ (fun _ s₂ h₂ => ?_) fun _ _ q => q)
      refine on_bind (on_mono h₂ (fun _ s₃ h₃ => ?_) fun _ _ q => q)
      refine on_bind (on_mono h₃ (fun f s₄ h₄ => ?_) fun _ _ q => q)
      cases f with
      | next => obtain ⟨m, hm, hi⟩ := h₄; exact on_pure ⟨rfl, ih m hm hi⟩
      | cont => obtain ⟨m, hm, hi⟩ := h₄; exact on_pure ⟨rfl, ih m hm hi⟩
      | brk => exact on_pure h₄
      | ret v => exact on_pure h₄
theorem on_hold {M : Model} {α : Type} {m : Sem α} {vs : List Value} {Q : α → Shared → Prop} {E : Value → Shared → Prop} (h : RunsOn M A m Q E s) : RunsOn M A (holding vs m) Q E s := by
  rw [holding_eq_keep]
  exact on_keep h
theorem on_For {pos : Pos} {Q : Flow → Shared → Prop} {E : Value → Shared → Prop}
    (h : RunsOn (model prog w) A (eval iter env) (fun x s₁ => RunsOn (model prog w) A (pyIter x) (fun it s₂ =>
      CodeOn (model prog w) A (.forLoop target it body [] env) (fun r s' => match r with | .ok f => Q f s' | .error e => False) s₂) E s₁) E s)
    (hs : ∀ x, foldedSetIterable iter env x = pure x) : RunsOn (model prog w) A (exec (.For target iter body [] pos) env) Q E s := by
  rw [exec_For]
  refine on_stand (on_bind (on_mono h (fun x s₁ h₁ => ?_) fun _ _ q => q))
  rw [hs x]
  refine on_bind (on_pure ?_)
  refine on_stand (on_bind ?_)
  refine on_hold (on_mono h₁ (fun it s₂ h₂ => ?_) fun _ _ q => q)
  unfold runOwn
  refine on_onRaise (on_mono (E := NoE) (Q := Q) ?_ (fun _ _ q => q) fun _ _ q => q.elim)
  refine on_code (h := none) (by intro z; cases z) (code_mono h₂ fun r s' hr => ?_)
  cases r with
  | ok f => exact on_pure hr
  | error e => exact hr.elim
end
/-- a def's promise in the wide triple -/
structure OFn (P : Program) (w : World) (K : PySem.W.Frag) (mg : Str → Option Value) (base : Heap) (k : Nat) (f : Addr) (fd : FuncData) (ps : List Str) (sp : Sp) : Prop where
  len : ∀ vs H Q E, sp vs H Q E → vs.length = ps.length
  run : ∀ (A : Around) (outer : List Env) (s : Shared) (H : Hp) (args : Args) (us : List Value) (vs : List V) (Q : VK) (E : XK), Room k A → Env0 P w K mg base A outer s H → BindsTo s fd args (ps.zip us) → Vals vs us → sp vs H Q E →
    CodeOn (model P w) A (.call (.ref f) args) (fun r s' => match r with | .ok (.ret u) => CE outer P w H s Q u s' | _ => False) s
theorem ofn_of {P : Program} {w : World} {K : PySem.W.Frag} {mg : Str → Option Value} {base : Heap} {k : Nat} {f : Addr} {name qual : Str} {params : Arguments} {body : List Stmt} {scope : Scope} {dV kV doc pm cdv ct oc : Value} {an od : Option Addr}
    {osl : Array (Option Value)} {N ps : List Str} {sp : Sp} (lk : K.lookup f = some ⟨oc, od, .func (PySem.W.fnOf name qual params body scope dV kV doc pm an cdv ct), osl⟩) (hcd : PySem.W.codeIn K cdv qual = true) (S : FnScope N ps scope)
    (len : ∀ vs H Q E, sp vs H Q E → vs.length = ps.length)
    (hbody : ∀ (A : Around) (outer : List Env) (s : Shared) (H : Hp) (vs : List V) (Q : VK) (E : XK), Room k (A.deeper (envOfC qual scope s.heap.objs.size f cdv)) → sp vs H Q E →
      ∀ s1, Inv (cxOf CX0 P w K mg base N qual scope f cdv A outer s H E) [] (start N vs) H s1 →
        RunsOn (model P w) (A.deeper (envOfC qual scope s.heap.objs.size f cdv)) (execs body (envOfC qual scope s.heap.objs.size f cdv)) (SP (cxOf CX0 P w K mg base N qual scope f cdv A outer s H E) [] { nx := fun _ H' => Q .non H', rt := Q }) NoE s1) :
    OFn P w K mg base (k + 1) f (PySem.W.fnOf name qual params body scope dV kV doc pm an cdv ct) ps sp := by
  refine ⟨len, fun A outer s H args us vs Q E hr e0 hb r hsp => ?_⟩
  have KX : K.In s.heap := e0.mod.kin.keeps fun b o e => (e0.bs b o e).1
  have hkind : ∀ y ∈ ps.zip us, scope.names.lookup y.1 = some .local ∨ (scope.names.lookup y.1 = some .cell ∧ ((cellsFrom (s.heap.objs.size + 1) scope.names []).lookup y.1).isSome = true) := fun ⟨n, v⟩ hy =>
    (S.par n (List.of_mem_zip hy).1).imp id fun q => ⟨q, PySem.W.cellsFrom_some _ _ _ (.inl q)⟩
  refine code_def hr.depth (KX _ _ lk) rfl S.co S.gen rfl (PySem.W.codeRec_of KX hcd) (hb _ _ _ _ ?_)
  refine wpAny_newFunctionEnv_cells S.kind hkind fun env he s1 x => ?_
  subst he
  refine ⟨(e0.mod.nolimit.keeps fun b o e => (e0.bs b o e).1).keeps x.toInCall.keep, code_func ?_⟩
  have I : Inv (cxOf CX0 P w K mg base N qual scope f cdv A outer s H E) [] (start N vs) H s1 := inv_start S hr.hd e0 (len _ _ _ _ hsp) r x
  refine on_mono (hbody A outer s H vs Q E (hr.deeper _) hsp s1 I) (fun fl s' hs => ?_) fun _ _ q => q
  cases fl with
  | ret u =>
    obtain ⟨v, σ', H', J, rv, q⟩ := hs
    exact ⟨v, H', J.os, J.bare, J.base, J.hok, rv, q⟩
  | next =>
    obtain ⟨σ', H', J, q⟩ := hs
    exact ⟨.non, H', J.os, J.bare, J.base, J.hok, rfl, q⟩
  | brk => exact hs.elim fun _ z => z.elim fun _ y => y.2.elim
  | cont => exact hs.elim fun _ z => z.elim fun _ y => y.2.elim
/-- a calm part in a def of no exception -/
theorem on_calm {X : Cx} {α : Type} {s : Shared} {m : Sem α} {Q : α → Shared → Prop} (hx : ∀ e s', X.xe e s' → wpAny (model X.prog X.w) X.A (leaving X.env e) (fun _ _ => False) NoE s') (h : wpAny (model X.prog X.w) X.A m Q X.xe s) : RunsOn (model X.prog X.w) X.A m Q NoE s :=
  on_none (t := fun e => leaving X.env e) (on_mono (on_of h) (fun _ _ q => q) fun e s' q => hx e s' q)
end K21
/-! ## S7 -/
set_option maxHeartbeats 4000000
set_option Elab.async false
set_option linter.all false
set_option maxRecDepth 100000
/-! The call of a def in the spine. -/
namespace K21
open PySem PySem.Spec PyProof.Rows L2
open Sem (wp)
section
variable {M : Model} {A : Around} {s : Shared} {Q : Value → Shared → Prop} {E : Value → Shared → Prop}
theorem on_callWith {K : PySem.W.Frag} {pos : Pos} {f : Value} {first : List Value} {args : List (Bool × Sem Value)} {kws : List (Option Str × Sem Value)} (hplain : (args.any (·.1) || kws.any (·.1.isNone)) = false) (hk : PySem.W.keepIn K f = true)
    (h : RunsOn M A (evalArgs f true args kws) (fun a s₁ => K.In s₁.heap ∧ RunsOn M A (call f (first ++ a.pos) a.kw) Q E s₁) E s) : RunsOn M A (callWith pos f first args kws) Q E s := by
  unfold callWith
  refine on_bind (on_hold (on_mono h (fun a s₁ h₁ => on_stand ?_) fun _ _ x => x))
  obtain ⟨k, hk', L⟩ := PySem.W.keeps_K (M := M) hk _ h₁.1
  simp only [hplain]
  refine on_bind (on_of (L.here ?_))
  have back : ∀ {t : Sem Value}, RunsOn M A t Q E s₁ → RunsOn M A (t >>= fun r => holding [r] point >>= fun _ => pure r) Q E s₁ := fun ht =>
    on_bind (on_mono ht (fun r s₂ hr => on_bind (on_of (wpAny_holding (wpAny_point (on_pure hr))))) fun _ _ x => x)
  have mk : ∀ m : Value, RunsOn M A (callMarked m f (first ++ a.pos) a.kw) Q E s₁ := fun m => on_keep h₁.2
  rcases hk' with rfl | rfl | rfl
  all_goals dsimp only
  all_goals first
    | exact back h₁.2
    | (split <;> first | exact back h₁.2 | exact back (mk _))
end
section
variable {X : Cx} {k : Nat} {f : Addr} {fd : FuncData} {ps : List Str} {sp : Sp} {x : Str} {p pos : Pos} {e : Expr} {es : List Expr} {ta : TA}
/-- f(e, ..): the def's own promise, in the wide triple -/
theorem on_callName (hx : ∀ e s', X.xe e s' → wpAny (model X.prog X.w) X.A (leaving X.env e) (fun _ _ => False) NoE s')
    (F : OFn X.prog X.w X.K X.mg X.base k f fd ps sp) (hr : Room k X.A) (hg : Gl X x) (hm : X.mg x = some (.ref f)) (hk : PySem.W.keepIn X.K (.ref f) = true) (hb : Binds X.K fd ps []) (ha : PA X (e :: es) ta)
    {pins : List (Addr × Obj)} {s : Shared} {σ : L2.St} {H : Hp} {Q : VK} (I : Inv X pins σ H s) (h : ta σ H fun vs H1 => sp vs H1 Q E0)
    (hdb : (x == ("__debug__" : Str)) = false := by decide)
    (he : starEach (e :: es) X.env = (false, eval e X.env) :: starEach es X.env := by rfl) (hpl : (backTo pos (starEach es X.env)).any (·.1) = false := by rfl) :
    RunsOn (model X.prog X.w) X.A (eval (.Call (.Name x p) (e :: es) [] pos) X.env) (EP X pins σ Q) NoE s := by
  rw [arm_eval_Call_Name']
  refine on_bind (on_calm hx (ld_glob I hg hm ?_ hdb))
  refine on_callWith (K := X.K) (by rw [he]; show ((false || (backTo pos (starEach es X.env)).any (·.1)) || false) = false; rw [hpl]; rfl) hk ?_
  rw [he]
  refine on_calm hx (PySem.Calls.evalArgs_plain ?_)
  have q := ha.run pos pins s σ H _ I h
  rw [he] at q
  refine thn q fun us s1 ⟨vs, H1, I1, r, q1⟩ => ⟨I1.kIn, ?_⟩
  have hl : us.length = ps.length := by rw [← r.length]; exact F.len _ _ _ _ q1
  have hz := hb s1 us I1.kIn (by rw [List.append_nil]; exact hl)
  rw [List.append_nil] at hz
  refine on_call (code_mono (F.run X.A X.stack s1 H1 ⟨us, []⟩ us vs Q E0 hr I1.env0 hz r q1) fun r s' hq => ?_)
  cases r with
  | error e => exact hq
  | ok fl =>
    cases fl with
    | ret u => exact I1.after hq
    | next => exact hq
    | brk => exact hq
    | cont => exact hq
end
end K21
/-! ## S8 -/
set_option maxHeartbeats 4000000
set_option Elab.async false
set_option linter.all false
set_option maxRecDepth 100000
/-! The test `a and not f(..)` of the spine. -/
namespace K21
open PySem PySem.Spec PyProof.Rows L2
open Sem (wp)
section
variable {M : Model} {A : Around} {s : Shared} {env : Env} {Q : Bool → Shared → Prop} {E : Value → Shared → Prop}
theorem on_andNot {a c : Expr} {np bp : Pos} {whole : Sem Value} (hc : isTrue c env (eval c env) = (do let v ← eval c env; standAt c.pos; holding [v] (truthy v)))
    (h : RunsOn M A (isTrue a env (eval a env)) (fun b s₁ => if b = true then RunsOn M A (eval c env) (fun v s₂ => ∃ d, v = .bool d ∧ Q (!d) s₂) E s₁ else Q false s₁) E s) :
    RunsOn M A (isTrue (.BoolOp .And [a, .UnaryOp .Not c np] bp) env whole) Q E s := by
  rw [arm_isTrue_BoolOp, arm_allTrue_cons]
  refine on_bind (on_mono h (fun b s₁ h₁ => ?_) fun _ _ q => q)
  cases b with
  | false => exact on_pure h₁
  | true =>
    dsimp only
    rw [arm_allTrue_cons, arm_isTrue_UnaryOp, hc]
    refine on_bind (on_bind (on_bind (on_mono h₁ (fun v s₂ h₂ => ?_) fun _ _ q => q)))
    obtain ⟨d, rfl, hq⟩ := h₂
    refine on_stand (on_hold (on_of (wpAny_truthy_bool (on_pure ?_))))
    cases d with
    | true => exact on_pure hq
    | false => exact on_pure hq
end
end K21
/-! ## S9 -/
set_option maxHeartbeats 4000000
set_option Elab.async false
set_option linter.all false
set_option maxRecDepth 100000
/-! The hand layer's readings in the wide triple: the same transformers. -/
namespace K21
open PySem PySem.Spec PyProof.Rows L2
/-- an exception cannot leave -/
def NoX (X : Cx) : Prop := ∀ e s', X.xe e s' → wpAny (model X.prog X.w) X.A (leaving X.env e) (fun _ _ => False) NoE s'
structure OPE (X : Cx) (e : Expr) (t : TE) : Prop where
  run : ∀ (pins : List (Addr × Obj)) (s : Shared) (σ : L2.St) (H : Hp) (Q : VK), Inv X pins σ H s → t σ H Q → RunsOn (model X.prog X.w) X.A (eval e X.env) (EP X pins σ Q) NoE s
structure OPT (X : Cx) (e : Expr) (t : TT) : Prop where
  run : ∀ (pins : List (Addr × Obj)) (s : Shared) (σ : L2.St) (H : Hp) (Q : Bool → Hp → Prop), Inv X pins σ H s → t σ H Q → RunsOn (model X.prog X.w) X.A (isTrue e X.env (eval e X.env)) (TP X pins σ Q) NoE s
structure OPS (X : Cx) (st : Stmt) (t : TS) : Prop where
  run : ∀ (pins : List (Addr × Obj)) (s : Shared) (σ : L2.St) (H : Hp) (D : Ends), Inv X pins σ H s → t D σ H → RunsOn (model X.prog X.w) X.A (exec st X.env) (SP X pins D) NoE s
structure OPSs (X : Cx) (st : List Stmt) (t : TS) : Prop where
  run : ∀ (pins : List (Addr × Obj)) (s : Shared) (σ : L2.St) (H : Hp) (D : Ends), Inv X pins σ H s → t D σ H → RunsOn (model X.prog X.w) X.A (execs st X.env) (SP X pins D) NoE s
section
variable {X : Cx} {e a c : Expr} {st : Stmt} {rest b1 b2 : List Stmt} {t u : TS} {te : TE} {tc td : TT} {pos np bp : Pos}
theorem ope_of (hx : NoX X) (h : PE X e te) : OPE X e te := ⟨fun pins s σ H Q I q => on_calm hx (h.run pins s σ H Q I q)⟩
theorem opt_of (hx : NoX X) (h : PT X e tc) : OPT X e tc := ⟨fun pins s σ H Q I q => on_calm hx (h.run pins s σ H Q I q)⟩
theorem os_of (hx : NoX X) (h : PS X st t) : OPS X st t := ⟨fun pins s σ H D I q => on_calm hx (h.run pins s σ H D I q)⟩
theorem oss_of (hx : NoX X) (h : PSs X rest t) : OPSs X rest t := ⟨fun pins s σ H D I q => on_calm hx (h.run pins s σ H D I q)⟩
theorem oss_nil : OPSs X [] tNext := ⟨fun _ _ σ H _ I h => on_execs_nil ⟨σ, H, I, h⟩⟩
theorem oss_cons (h1 : OPS X st t) (h2 : OPSs X rest u) : OPSs X (st :: rest) (tSeq t u) := by
  refine ⟨fun pins s σ H D I h => ?_⟩
  refine on_execs_cons (on_mono (h1.run pins s σ H { D with nx := u D } I h) (fun f s1 q => ?_) fun _ _ q => q)
  cases f with
  | next => obtain ⟨σ', H', I', q⟩ := q; exact h2.run pins s1 σ' H' D I' q
  | brk => exact q
  | cont => exact q
  | ret v => exact q
theorem os_if (hc : OPT X c tc) (ha : OPSs X b1 t) (hb : OPSs X b2 u) : OPS X (.If c b1 b2 pos) (tIfS tc t u) := by
  refine ⟨fun pins s σ H D I h => ?_⟩
  refine on_If (on_mono (hc.run pins s σ H _ I h) (fun d s1 ⟨H1, I1, q1⟩ => ?_) fun _ _ q => q)
  cases d with
  | true => exact ha.run pins s1 σ H1 D I1 q1
  | false => exact hb.run pins s1 σ H1 D I1 q1
theorem os_ret (he : OPE X e te) : OPS X (.Return (some e) pos) (tRet te) := ⟨fun pins s σ H D I h =>
  on_Return (on_mono (he.run pins s σ H _ I h) (fun v s1 ⟨x, H1, I1, r1, q1⟩ => ⟨x, σ, H1, I1, r1, q1⟩) fun _ _ q => q)⟩
theorem os_set {i : Nat} {x : Str} {pos' : Pos} (hx : NoX X) (hN : X.N.Nodup) (hi : X.N[i]? = some x) (hl : Loc X.env.scope x) (he : OPE X e te) (hs : swapsWith e (some (.Name x pos')) pos.line X.env = pure false := by rfl)
    (hf : X.fn x = true ∨ X.env.scope.names.lookup x = some .local := by first | exact .inl rfl | exact .inr rfl | assumption) : OPS X (.Assign [.Name x pos'] e pos) (tAsg te (gName i)) := by
  refine ⟨fun pins s σ H D I h => ?_⟩
  refine on_Set (E := NoE) hs (on_mono (he.run pins s σ H _ I h) (fun v s1 ⟨y, H1, I1, r1, q1⟩ => ?_) fun _ _ q => q)
  exact store_ok I1 hN hi hl r1 (fun s2 I2 => ⟨_, H1, I2, q1⟩) hf
/-- a and not c, c a call -/
theorem opt_andNot (ha : OPT X a td) (hc : OPE X c te) (hp : isTrue c X.env (eval c X.env) = (do let v ← eval c X.env; standAt c.pos; holding [v] (truthy v)) := by rfl) :
    OPT X (.BoolOp .And [a, .UnaryOp .Not c np] bp) (tAnd td (tNot (tB te))) := by
  refine ⟨fun pins s σ H Q I h => ?_⟩
  refine on_andNot hp (on_mono (ha.run pins s σ H _ I h) (fun d s1 ⟨H1, I1, q1⟩ => ?_) fun _ _ q => q)
  cases d with
  | false => exact ⟨H1, I1, q1⟩
  | true =>
    refine on_mono (hc.run pins s1 σ H1 _ I1 q1) (fun v s2 ⟨x, H2, I2, r2, q2⟩ => ?_) fun _ _ q => q
    obtain ⟨d, rfl, q⟩ := q2
    cases r2
    exact ⟨d, rfl, H2, I2, q⟩
theorem ope_call {k : Nat} {f : Addr} {fd : FuncData} {ps : List Str} {sp : Sp} {x : Str} {p : Pos} {es : List Expr} {ta : TA} (hx : NoX X) (F : OFn X.prog X.w X.K X.mg X.base k f fd ps sp) (hr : Room k X.A) (hg : Gl X x) (hm : X.mg x = some (.ref f)) (hk : PySem.W.keepIn X.K (.ref f) = true) (hb : L2.Binds X.K fd ps []) (ha : PA X (e :: es) ta)
    (hdb : (x == ("__debug__" : Str)) = false := by decide) (he : starEach (e :: es) X.env = (false, eval e X.env) :: starEach es X.env := by rfl) (hpl : (backTo pos (starEach es X.env)).any (·.1) = false := by rfl) :
    OPE X (.Call (.Name x p) (e :: es) [] pos) (tCall sp [] E0 ta) := ⟨fun pins s σ H Q I h => on_callName hx F hr hg hm hk hb ha I (by
      have q : ta σ H fun vs H1 => sp (vs ++ []) H1 Q E0 := h
      simpa only [List.append_nil] using q) hdb he hpl⟩
end
end K21
/-! ## S10 -/
set_option maxHeartbeats 4000000
set_option Elab.async false
set_option linter.all false
set_option maxRecDepth 100000
/-! for of the spine; a def's promise by OPSs. -/
namespace K21
open PySem PySem.Spec PyProof.Rows L2
section
variable {X : Cx} {tg iter : Expr} {body : List Stmt} {wi : TI} {g : TG} {tb : TS} {pos : Pos}
theorem os_for (hx : NoX X) (hc : X.calm = true) (hi : PI X tg iter wi) (hg : PG X tg g) (hb : OPSs X body tb) (hs : ∀ x, foldedSetIterable iter X.env x = pure x := by intro _; rfl) : OPS X (.For tg iter body [] pos) (tFor wi g tb) := by
  refine ⟨fun pins s σ H D I h => ?_⟩
  refine on_For (E := NoE) (on_mono (on_calm hx (hi.run pins s σ H _ I h)) (fun v s1 h1 => on_mono (on_calm hx h1) (fun itv s2 h2 => ?_) fun _ _ q => q) fun _ _ q => q) hs
  obtain ⟨it, fp, tn, J, H2, e, I2, T, st2, f2, W, ⟨m0, w0⟩, turn⟩ := h2
  subst e
  have stat : ∀ {H' : Hp}, (∀ b ∈ fp, H' b = none) → ∀ b ∈ fp, FpOk X pins H' b := fun hn b hb' => ⟨hn b hb', (f2 b hb').2⟩
  refine code_for (fun n s' => ∃ i σ' H', Inv X pins σ' H' s' ∧ tn i s'.heap ∧ (∀ b ∈ fp, H' b = none) ∧ W i n σ' H') ?_ m0 ⟨0, σ, H2, I2, st2, fun b hb' => (f2 b hb').1, w0⟩
  rintro n s3 ⟨i, σ3, H3, I3, st3, fr3, w3⟩
  rcases turn i n σ3 H3 w3 with ⟨stop, qn⟩ | ⟨go, N, hN, step⟩
  · refine on_mono (on_calm hx (T.done X rfl rfl rfl hc i pins s3 σ3 H3 X.xe I3 (stat fr3) st3 stop)) (fun r s4 ⟨hr, I4⟩ => ?_) fun _ _ q => q
    subst hr
    exact ⟨σ3, H3, I4, qn⟩
  · refine on_mono (on_calm hx (T.item X rfl rfl rfl hc i pins s3 σ3 H3 X.xe I3 (stat fr3) st3 go)) (fun r s4 ⟨u, hr, h4⟩ => ?_) fun _ _ q => q
    subst hr
    refine on_mono (on_calm hx h4) (fun _ s5 ⟨x, H5, I5, r5, y5, st5, fr5⟩ => ?_) fun _ _ q => q
    refine on_mono (on_calm hx (hg.run _ s5 σ3 H5 x u _ (I5.pinned (stat fr5) (T.obj _ _ st5)) r5 (step x H5 y5))) (fun _ s6 ⟨σ6, H6, I6, q6⟩ => ?_) fun _ _ q => q
    refine on_mono (hb.run _ s6 σ6 H6 _ I6 q6) (fun f s7 q7 => ?_) fun _ _ q => q
    have more : ∀ {σ7 : L2.St} {H7 : Hp}, Inv X (pins ++ pinsAt fp s5.heap) σ7 H7 s7 → N σ7 H7 → ∃ m, m < n ∧ ∃ i σ' H', Inv X pins σ' H' s7 ∧ tn i s7.heap ∧ (∀ b ∈ fp, H' b = none) ∧ W i m σ' H' := fun {σ7 H7} I7 n7 => by
      obtain ⟨m', hm, w7⟩ := hN σ7 H7 n7
      have at7 : ∀ b ∈ fp, ∀ o, s5.heap.get? b = some o → s7.heap.get? b = some o ∧ H7 b = none := fun b hb' o e =>
        have z := I7.pin (b, o) (List.mem_append_right _ (List.mem_append_right _ (mem_pinsAt hb' e)))
        ⟨z.1, z.2.1⟩
      refine ⟨m', hm, i + 1, σ7, H7, I7.unpinned, T.keep _ _ _ st5 fun b hb' o e => (at7 b hb' o e).1, fun b hb' => ?_, w7⟩
      obtain ⟨o, e, _⟩ := T.obj _ _ st5 b hb'
      exact (at7 b hb' o e).2
    cases f with
    | next => obtain ⟨σ7, H7, I7, n7⟩ := q7; exact more I7 n7
    | cont => obtain ⟨σ7, H7, I7, n7⟩ := q7; exact more I7 n7
    | brk => obtain ⟨σ7, H7, I7, q7⟩ := q7; exact ⟨σ7, H7, I7.unpinned, q7⟩
    | ret v => obtain ⟨x7, σ7, H7, I7, r7, q7⟩ := q7; exact ⟨x7, σ7, H7, I7.unpinned, r7, q7⟩
end
theorem nox_of {P : Program} {w : World} {K : PySem.W.Frag} {mg : Str → Option Value} {base : Heap} {N : List Str} {qual : Str} {scope : Scope} {f : Addr} {cd : Value} {A : Around} {outer : List Env} {s : Shared} {H : Hp} {E : XK} : NoX (cxOf CX0 P w K mg base N qual scope f cd A outer s H E) :=
  fun _ _ h => h
end K21
/-! ## S11 -/
set_option maxHeartbeats 4000000
set_option Elab.async false
set_option linter.all false
set_option maxRecDepth 100000
/-! Defs of the spine under their names. -/
namespace K21
open PySem PySem.Spec PyProof.Rows L2
theorem oss_one {X : Cx} {st : Stmt} {t : TS} (h1 : OPS X st t) : OPSs X [st] t := by
  refine ⟨fun pins s σ H D I h => ?_⟩
  refine on_execs_cons (on_mono (h1.run pins s σ H D I h) (fun f s1 q => ?_) fun _ _ q => q)
  cases f with
  | next => exact on_execs_nil q
  | brk => exact q
  | cont => exact q
  | ret v => exact q
theorem nox_nox {X : Cx} : NoX X.nox := fun _ _ h => h.elim
section
variable {P : Program} {w : World} {K : PySem.W.Frag} {mg : Str → Option Value} {base : Heap}
structure OCal (P : Program) (w : World) (K : PySem.W.Frag) (mg : Str → Option Value) (base : Heap) (k : Nat) (x : Str) (sp : Sp) : Prop where
  ex : ∃ (f : Addr) (fd : FuncData) (ps : List Str), OFn P w K mg base k f fd ps sp ∧ mg x = some (.ref f) ∧ PySem.W.keepIn K (.ref f) = true ∧ L2.Binds K fd ps []
abbrev OBody (P : Program) (w : World) (K : PySem.W.Frag) (mg : Str → Option Value) (base : Heap) (N : List Str) (qual : Str) (st : Stmt) (k : Nat) (sp : Sp) : Prop :=
  ∀ (f : Addr) (cdv : Value) (A : Around) (outer : List Env) (s : Shared) (H : Hp) (vs : List V) (Q : VK) (E : XK), Room k (A.deeper (envOfC qual (defScope st) s.heap.objs.size f cdv)) → sp vs H Q E →
    ∃ t, OPSs (cxOf CX0 P w K mg base N qual (defScope st) f cdv A outer s H E).nox (defBody st) t ∧ t { nx := fun _ H' => Q .non H', rt := Q } (start N vs) H
theorem fun_ofn {x qual : Str} {st : Stmt} {f : Addr} {fd : FuncData} {N ps : List Str} {k : Nat} {sp : Sp} (F : L2.Fun K x qual st f fd) (S : FnScope N ps (defScope st)) (len : ∀ vs H Q E, sp vs H Q E → vs.length = ps.length) (b : OBody P w K mg base N qual st k sp) :
    OFn P w K mg base (k + 1) f fd ps sp := by
  obtain ⟨oc, od, kV, doc, pm, an, cdv, ct, osl, rfl, lk, hcd⟩ := F.ex
  refine ofn_of lk hcd S len fun A outer s H vs Q E hr hsp s1 I => ?_
  obtain ⟨t, h, q⟩ := b f cdv A outer s H vs Q E hr hsp
  exact on_mono (h.run [] s1 _ H _ (I.wish _) q) (fun _ _ z => z.unwish) fun _ _ z => z
theorem DF.ocal {x : Str} {st : Stmt} {N ps : List Str} {k : Nat} {sp : Sp} (F : DF K mg x st ps) (S : FnScope N ps (defScope st)) (len : ∀ vs H Q E, sp vs H Q E → vs.length = ps.length) (b : OBody P w K mg base N x st k sp) : OCal P w K mg base (k + 1) x sp := by
  obtain ⟨f, fd, h, hm, hb⟩ := F.ex
  exact ⟨f, fd, ps, fun_ofn h S len b, hm, h.kp, hb⟩
end
theorem ope_c {X : Cx} {k j : Nat} {x : Str} {sp : Sp} {p pos : Pos} {e : Expr} {es : List Expr} {t : TA} (hx : NoX X) (c : OCal X.prog X.w X.K X.mg X.base k x sp) (hr : Room j X.A) (hk : k ≤ j) (hg : Gl X x) (ha : PA X (e :: es) t)
    (hdb : (x == ("__debug__" : Str)) = false := by decide) (he : starEach (e :: es) X.env = (false, eval e X.env) :: starEach es X.env := by rfl) (hpl : (backTo pos (starEach es X.env)).any (·.1) = false := by rfl) : OPE X (.Call (.Name x p) (e :: es) [] pos) (tCall sp [] E0 t) := by
  obtain ⟨f, fd, ps, F, hm, kp, b⟩ := c.ex
  exact ope_call hx F (hr.mono hk) hg hm kp b ha hdb he hpl
end K21
/-! ## O27 -/
set_option Elab.async false
set_option linter.all false
set_option maxRecDepth 100000
set_option maxHeartbeats 4000000
/-! The law's main part. -/
namespace K21
open PySem PySem.Spec PyProof.Rows L2
def phi2 (H : Hp) : V → Str × Int
  | .ref t => match H t with
    | some (.tup [.str n, .int c]) => (n, c)
    | _ => ("", 0)
  | _ => ("", 0)
theorem pairs_map {H : Hp} {ts : List V} {os : List (Str × Int)} (h : PairsIn H ts os) : os = ts.map (phi2 H) := by
  apply List.ext_getElem?
  intro i
  rw [List.getElem?_map]
  cases e : ts[i]? with
  | none =>
    have := List.getElem?_eq_none_iff.mp e
    rw [h.len] at this
    rw [List.getElem?_eq_none this]; rfl
  | some x =>
    obtain ⟨t, n, c, rfl, h2, h3⟩ := h.at_ i x e
    rw [h2]
    show _ = some (phi2 H (.ref t))
    unfold phi2
    simp only [h3]
theorem pairs_perm {H : Hp} {ts ys : List V} {os : List (Str × Int)} (h : PairsIn H ts os) (hp : ys.Perm ts) : ∃ os', PairsIn H ys os' ∧ os'.Perm os := by
  refine ⟨ys.map (phi2 H), ⟨by rw [List.length_map], fun i x hx => ?_⟩, by rw [pairs_map h]; exact hp.map _⟩
  obtain ⟨j, hj⟩ := List.mem_iff_getElem?.mp (hp.mem_iff.mp (List.mem_of_getElem? hx))
  obtain ⟨t, n, c, rfl, h2, h3⟩ := h.at_ j x hj
  refine ⟨t, n, c, rfl, ?_, h3⟩
  rw [List.getElem?_map, hx]
  show some (phi2 H (.ref t)) = _
  unfold phi2
  simp only [h3]
theorem RowsOk.perm {rows rows' : List (Str × Int)} (h : RowsOk rows) (hp : rows'.Perm rows) : RowsOk rows' :=
  ⟨by rw [hp.length_eq]; exact h.few, (hp.map _).nodup_iff.mpr h.nd, fun r hr => h.its r (hp.mem_iff.mp hr), fun r hr => h.sl r (hp.mem_iff.mp hr)⟩
theorem Canon.permR {k : Kd} {rows rows' : List (Str × Int)} {B : Bd Str} (c : Canon k rows B) (hp : rows'.Perm rows) : Canon k rows' B :=
  ⟨(hp.map _).trans c.perm, c.asc, c.tn, fun n s h => by rw [hp.length_eq]; exact c.fl n s (hp.mem_iff.mp h)⟩
theorem Canon.kind {k k' : Kd} {rows : List (Str × Int)} {B : Bd Str} (c : Canon k rows B) (h : k'.isF = k.isF) : Canon k' rows B :=
  ⟨c.perm, c.asc, by rw [h]; exact c.tn, fun n s hn => by rw [h]; exact c.fl n s hn⟩
theorem Sok.perm {rows rows' : List (Str × Int)} {g : Gv Str} (s : Sok rows g) (hp : rows'.Perm rows) : Sok rows' g :=
  ⟨by rw [s.len, hp.length_eq], fun n hn => (hp.map _).mem_iff.mpr (s.mem n hn), s.one⟩
theorem vo_ne (g : Gv Str) (d m c : Int) : HO.lst (g.map vo) ≠ .lst [.int d, .int m, .int c] := fun z => by
  injection z with z
  cases g with
  | nil => cases z
  | cons o r =>
    injection z with z _
    cases o <;> cases z
theorem Eb.del {a : Addr} {H H' : Hp} (e : Eb a H H') : Ex (del H a) (del H' a) := fun b o q => by
  by_cases h : b = a
  · rw [h] at q; unfold K21.del at q; rw [if_pos rfl] at q; cases q
  · rw [del_ne h] at q ⊢; exact e b o h q
def spMirror : Sp := fun vs H Q _ => ∃ (r b : Addr) (n : Str) (i : Nat) (rows : List (Str × Int)) (g : Gv Str), vs = [.ref r, .ref b, .str n, .int (i : Nat)] ∧ RowsAt H r rows ∧ RowsOk rows ∧ rows ≠ [] ∧ (∀ r ∈ rows, r.2 < rows.length) ∧ H b = some (.lst (g.map vo)) ∧ Sok rows g ∧ n ∈ rows.map (·.1) ∧ i < rows.length ∧
  ∀ H', Ex H H' → Q (.bl true) H'
def spRight : Sp := fun vs H Q _ => ∃ (a r b : Addr) (k : Int) (rows : List (Str × Int)) (g : Gv Str), vs = [.ref a, .int k, .ref r, .ref b] ∧ FeedAt H a ∧ 0 ≤ k ∧ k < 3 ∧ RowsAt H r rows ∧ RowsOk rows ∧ rows ≠ [] ∧ H b = some (.lst (g.map vo)) ∧ Sok rows g ∧
  ∀ H', Eb a H H' → FeedAt H' a → Q (.bl true) H'
section
variable {P : Program} {w : World} {K : PySem.W.Frag} {mg : Str → Option Value} {base : Heap} {C : Kd → Addr} {CB RC : Addr}
abbrev slaw_right : Stmt := top 80
abbrev Nlaw_right : List Str := ["_law_feed_here", "_law_kind", "_law_rows", "_law_sights_here", "_law_name", "_law_spot", "_law_ranks", "_law_facts_here", "_law_mixed", "_law_other", "_law_near", "_law_own", "_law_slot"]
theorem sclaw_right : FnScope Nlaw_right ["_law_feed_here", "_law_kind", "_law_rows", "_law_sights_here"] (defScope slaw_right) := ⟨rfl, rfl, rfl, by decide +kernel, rfl, by decide +kernel, by decide +kernel⟩
-- 0 _law_feed_here, 1 _law_kind, 2 _law_rows*, 3 _law_sights_here, 4 _law_name, 5 _law_spot, 6 _law_ranks, 7 _law_facts_here, 8 _law_mixed, 9 _law_other, 10 _law_near, 11 _law_own, 12 _law_slot
theorem cal_right (F : DF K mg "_law_right" slaw_right ["_law_feed_here", "_law_kind", "_law_rows", "_law_sights_here"]) (T : Txt K mg C CB RC) (c__law_pick : C8.Cal P w K mg base 1 "_law_pick" spPick []) (c__law_shuffle : C8.Cal P w K mg base 2 "_law_shuffle" spShuffle []) (c__law_book : C8.Cal P w K mg base 5 "_law_book" (spBook C) []) (c__law_facts : C8.Cal P w K mg base 8 "_law_facts" (spFacts C) []) (c__law_same : C8.Cal P w K mg base 5 "_law_same" (spSame 4) []) (c__law_mirror_right : OCal P w K mg base 24 "_law_mirror_right" spMirror) (c__law_renamed_right : C8.Cal P w K mg base 9 "_law_renamed_right" (spRenamed C) []) : OCal P w K mg base 25 "_law_right" spRight := by
  refine F.ocal sclaw_right (fun vs H Q E h => ?_) (fun f cdv A outer s H vs Q E hr h => ?_)
  · obtain ⟨a, r, b, k, rows, g, rfl, _⟩ := h
    rfl
  · obtain ⟨a, r, b, k, rows, g, rfl, hf, k0, k3, hR, ok, hne, hb, sok, q⟩ := h
    have few := ok.few
    have rl : 0 < rows.length := List.length_pos_iff.mpr hne
    obtain ⟨B, cn⟩ := Canon.exists (k := kdOf k) ok.nd
    have hl := cn.len
    have its : ∀ x ∈ B.ns, okItem x := fun x hx => by
      obtain ⟨r, hr1, rfl⟩ := List.mem_map.mp (cn.perm.mem_iff.mpr hx)
      exact ok.its r hr1
    have okg : Gok B.ns g := gok_sok sok cn.perm
    have nb : b ≠ a := feed_ne hf hb (vo_ne g)
    obtain ⟨ts, hts, hP⟩ := hR
    have hR : RowsAt H r rows := ⟨ts, hts, hP⟩
    have hlen := hP.len
    refine ⟨_, (oss_cons (os_of nox_nox (ps_par (i := 4) (j := 5) (by rfl) sclaw_right.nd rfl rfl (by decide) rfl rfl (pa_cons (pe_ix (ix_tup_k K) (pe_ix (ix_list_k K) (pv 2) (C8.pe_c c__law_pick hr (by decide) (by rfl) (pa_cons (pv 0) (pa_cons (pe_callB (call_len_k K) (by rfl) T.len_ (by decide +kernel) (pa_cons (pv 2) pa_nil)) pa_nil))) (fun _ _ => rfl)) pe_int (fun _ _ => rfl)) (pa_cons (C8.pe_c c__law_pick hr (by decide) (by rfl) (pa_cons (pv 0) (pa_cons (pe_callB (call_len_k K) (by rfl) T.len_ (by decide +kernel) (pa_cons (pv 2) pa_nil)) pa_nil))) pa_nil)) (by rfl)))
      (oss_cons (os_of nox_nox (ps_set (i := 6) sclaw_right.nd rfl (Or.inl rfl) (pe_lst (pa_cons pe_int (pa_cons (C8.pe_c c__law_pick hr (by decide) (by rfl) (pa_cons (pv 0) (pa_cons (pe_op op_pow pe_int pe_int) pa_nil))) pa_nil)))))
      (oss_cons (os_of nox_nox (ps_set (i := 7) sclaw_right.nd rfl (Or.inl rfl) (C8.pe_c c__law_facts hr (by decide) (by rfl) (pa_cons (C8.pe_c c__law_book hr (by decide) (by rfl) (pa_cons (pe_tup (pa_cons (pv 1) (pa_cons (pv 2) pa_nil))) pa_nil)) (pa_cons (pv 3) (pa_cons (pv 4) (pa_cons (pv 5) (pa_cons (pv 6) pa_nil))))))))
      (oss_cons (os_of nox_nox (ps_set (i := 8) sclaw_right.nd rfl (Or.inl rfl) (C8.pe_c c__law_book hr (by decide) (by rfl) (pa_cons (pe_tup (pa_cons (pv 1) (pa_cons (C8.pe_c c__law_shuffle hr (by decide) (by rfl) (pa_cons (pv 0) (pa_cons (pv 2) pa_nil))) pa_nil))) pa_nil))))
      (oss_cons (os_of nox_nox (ps_if (pt_not (pt_val (C8.pe_c c__law_same hr (by decide) (by rfl) (pa_cons (C8.pe_c c__law_facts hr (by decide) (by rfl) (pa_cons (pv 8) (pa_cons (pv 3) (pa_cons (pv 4) (pa_cons (pv 5) (pa_cons (pv 6) pa_nil)))))) (pa_cons (pv 7) pa_nil))))) (pss_one (ps_ret pe_bl)) pss_nil))
      (oss_cons (os_if (opt_of nox_nox (pt_cmpR op_lt (pv 1) pe_int (nomark _))) (oss_cons (os_of nox_nox (ps_set (i := 9) sclaw_right.nd rfl (Or.inl rfl) (C8.pe_c c__law_book hr (by decide) (by rfl) (pa_cons (pe_tup (pa_cons (pe_op op_sub pe_int (pv 1)) (pa_cons (pv 2) pa_nil))) pa_nil))))
      (oss_cons (os_of nox_nox (ps_if (pt_not (pt_val (C8.pe_c c__law_same hr (by decide) (by rfl) (pa_cons (C8.pe_c c__law_facts hr (by decide) (by rfl) (pa_cons (pv 9) (pa_cons (pv 3) (pa_cons (pv 4) (pa_cons (pv 5) (pa_cons (pv 6) pa_nil)))))) (pa_cons (pv 7) pa_nil))))) (pss_one (ps_ret pe_bl)) pss_nil))
      (oss_cons (os_of nox_nox (ps_set (i := 10) sclaw_right.nd rfl (Or.inl rfl) (pe_cmpR (op_eqD_k K (hr_u hr)) (pe_lc (own := [("_law_own", 11), ("_law_slot", 12)]) rfl sclaw_right.nd (pi_list_k K (pv 2)) (blkOk_by (N := Nlaw_right) (sc := defScope slaw_right) (own := [("_law_own", 11), ("_law_slot", 12)]) (by decide +kernel)) (fun _ _ _ _ _ => (pg_tup_k K (n := 2) rfl (pgs_cons (pg_name (i := 11) sclaw_right.nd rfl (Or.inl rfl)) (pgs_cons (pg_name (i := 12) sclaw_right.nd rfl (Or.inl rfl)) pgs_nil)))) (fun _ _ _ _ _ => (pts_one (pt_cmpR op_ge (pv 12) (pe_callB (call_len_k K) (by rfl) T.len_ (by decide +kernel) (pa_cons (pv 2) pa_nil)) (nomark _)))) (fun _ _ _ _ _ => pe_int)) (pe_lst pa_nil) (nomark _))))
      (oss_one (os_if (opt_andNot (opt_of nox_nox (pt_val (pv 10))) (ope_c nox_nox c__law_mirror_right hr (by decide) (by rfl) (pa_cons (pv 2) (pa_cons (pv 3) (pa_cons (pv 4) (pa_cons (pv 5) pa_nil)))))) (oss_of nox_nox (pss_one (ps_ret pe_bl))) (oss_of nox_nox pss_nil)))))) (oss_of nox_nox pss_nil))
      (oss_of nox_nox (pss_one (ps_ret (C8.pe_c c__law_renamed_right hr (by decide) (by rfl) (pa_cons (pv 0) (pa_cons (pv 1) (pa_cons (pv 2) (pa_cons (pv 3) (pa_cons (pv 4) (pa_cons (pv 5) (pa_cons (pv 6) pa_nil))))))))))))))))), ?_⟩
    refine ⟨_, rfl, _, rfl, _, rfl, r, ts, rfl, .inl (Evl.sq_of hts), a, _, rfl, hf, by omega, small_le (by omega), fun j H1 e1 hf1 j0 j1 => ?_⟩
    obtain ⟨jn, rfl⟩ := Int.eq_ofNat_of_zero_le j0
    have hjn : jn < ts.length := by omega
    obtain ⟨ts1, hts1, hP1⟩ := hR.eb hf e1
    have e1t : ts1 = ts := by
      have := e1 _ _ (hR.ne hf) hts
      rw [hts1] at this
      injection this with this; injection this
    subst e1t
    have hx1 := List.getElem?_eq_getElem hjn
    obtain ⟨t, n, sl, ht0, hrow, ht⟩ := hP1.at_ jn _ hx1
    rw [ht0] at hx1
    have hn : n ∈ rows.map (·.1) := List.mem_map.mpr ⟨(n, sl), List.mem_of_getElem? hrow, rfl⟩
    refine ⟨r, _, _, .ref t, rfl, rfl, Evl.sq_of hts1, atI_nat hx1, t, _, _, .str n, rfl, rfl, .inl (.inl ht), atI_nat (j := 0) rfl, ?_⟩
    refine ⟨_, rfl, _, rfl, r, _, rfl, .inl (Evl.sq_of hts1), a, _, rfl, hf1, by omega, small_le (by omega), fun i H2 e2 hf2 i0 i1 => ⟨_, _, rfl, ?_⟩⟩
    obtain ⟨i, rfl⟩ := Int.eq_ofNat_of_zero_le i0
    have hi : i < rows.length := by omega
    -- ranks
    refine ⟨_, rfl, _, _, rfl, rfl, ⟨by omega, by omega, by decide⟩, a, _, rfl, hf2, (by decide), (by decide), fun p H3 e3 hf3 p0 p1 => ?_⟩
    refine ⟨(by show 2 ≤ sizeLine; decide), fun c hc => ?_⟩
    have e4 : Ex H3 (upd H3 c (.lst [.int 0, .int p])) := Evl.Ex.new hc
    have g4 : upd H3 c (.lst [.int 0, .int p]) c = some (.lst (([0, p] : List Int).map V.int)) := upd_same
    have nc : c ≠ a := (feed_some hf3 hc).symm
    generalize upd H3 c (.lst [.int 0, .int p]) = H4 at e4 g4 ⊢
    have e04 := ((e1.trans e2).trans e3).trans (Eb.ofEx e4)
    have hf4 := hf3.ex e4
    have hn : n ∈ B.ns := cn.perm.mem_iff.mp hn
    have few40 : rows.length ≤ 40 := by omega
    -- facts here
    refine ⟨_, rfl, _, rfl, (by show 2 ≤ sizeLine; decide), fun t1 ht1 => ?_⟩
    have e5 : Ex H4 (upd H4 t1 (.tup [.int k, .ref r])) := Evl.Ex.new ht1
    have g5 : upd H4 t1 (.tup [.int k, .ref r]) t1 = some (.tup [.int k, .ref r]) := upd_same
    generalize upd H4 t1 (.tup [.int k, .ref r]) = H5 at e5 g5 ⊢
    have hR4 := hR.eb hf e04
    have hb4 := e04 _ _ nb hb
    refine ⟨t1, r, k, rows, rfl, g5, hR4.ex e5, ok, fun bk H6 hbk e6 hB => ?_⟩
    have e46 := e5.trans e6
    refine ⟨_, rfl, _, rfl, _, rfl, _, rfl, bk, b, c, n, i, kdOf k, rows, g, B, [0, p], rfl, ⟨hB, hne, few40, ok.nd, ok.its, e46 _ _ hb4, sok, cn⟩, hn, by rw [hl]; exact hi, e46 _ _ g4, (by show 2 ≤ 10; decide), fun fq H7 hfq e7 hD7 => ?_⟩
    have e47 := e46.trans e7
    obtain ⟨pu, sm, de⟩ := factsD_ok (rs := [0, p]) cn.asc okg its (by omega) n i (by show 2 ≤ 10; decide)
    -- mixed
    have hf7 := hf4.ex e47
    have hR7 := hR4.ex e47
    have nr : r ≠ a := hR7.ne hf7
    obtain ⟨ts7, hts7, hP7⟩ := hR7
    have hts7' := (e04.trans (Eb.ofEx e47)) _ _ (hR.ne hf) hts
    have e7t : ts7 = ts1 := by rw [hts7] at hts7'; injection hts7' with z; injection z
    subst e7t
    refine ⟨_, rfl, _, rfl, _, rfl, a, r, ts7, rfl, hf7, nr, hts7, by omega, fun mr H8 ys hmr e8 hf8 h8 hys => ?_⟩
    have hfa6 : H6 a ≠ none := fun z => by
      obtain ⟨_, _, _, h⟩ := hf4.ex e46
      rw [h] at z; cases z
    have hDa := hD7 a hfa6
    have hPa8 : PairsIn H8 ts7 rows := ⟨hP7.len, fun i x hx => by
      obtain ⟨t, n, c, w1, w2, w3⟩ := hP7.at_ i x hx
      exact ⟨t, n, c, w1, w2, e8 _ _ (feed_ne hf7 w3 (fun _ _ _ z => by cases z)) w3⟩⟩
    obtain ⟨rows', hP8, hperm⟩ := pairs_perm hPa8 hys
    have hR8 : RowsAt H8 mr rows' := ⟨ys, h8, hP8⟩
    have e08 := (e04.trans (Eb.ofEx e47)).trans e8
    have ok' := ok.perm hperm
    refine ⟨(by show 2 ≤ sizeLine; decide), fun t2 ht2 => ?_⟩
    have e9 : Ex H8 (upd H8 t2 (.tup [.int k, .ref mr])) := Evl.Ex.new ht2
    have g9 : upd H8 t2 (.tup [.int k, .ref mr]) t2 = some (.tup [.int k, .ref mr]) := upd_same
    generalize upd H8 t2 (.tup [.int k, .ref mr]) = H9 at e9 g9 ⊢
    refine ⟨t2, mr, k, rows', rfl, g9, hR8.ex e9, ok', fun bk2 H10 hbk2 e10 hB2 => ?_⟩
    have e810 := e9.trans e10
    have hb10 := e810 _ _ (e08 _ _ nb hb)
    have hc10 := e810 _ _ (e8 _ _ nc (e47 _ _ g4))
    have neP : rows' ≠ [] := fun z => hne (by rw [z] at hperm; exact List.Perm.nil_eq hperm |>.symm)
    have few40' : rows'.length ≤ 40 := by rw [hperm.length_eq]; exact few40
    refine ⟨_, rfl, _, rfl, _, rfl, _, rfl, _, rfl, bk2, b, c, n, i, kdOf k, rows', g, B, [0, p], rfl, ⟨hB2, neP, few40', ok'.nd, ok'.its, hb10, sok.perm hperm, cn.permR hperm⟩, hn, by rw [hl]; exact hi, hc10, (by show 2 ≤ 10; decide), fun fq2 H11 hfq2 e11 hD11 => ?_⟩
    have hD11' := dh_ex del_sub _ _ (hD11 c (by rw [hc10]; exact fun y => by cases y))
    have hD811 : Dh H11 (.ref fq) (factsD B g n i [0, p]) := dh_ex (e810.trans e11) _ _ (dh_ex del_sub _ _ (dh_ex e8.del _ _ hDa))
    refine ⟨_, rfl, _, _, _, rfl, hD11', hD811, pu, sm, by omega, by omega, fun H12 e12 => ⟨true, rfl, iteF ?_⟩⟩
    have e812 := (e810.trans e11).trans e12
    have e012 := e08.trans (Eb.ofEx e812)
    have hf12 := hf8.ex e812
    have hR12 := hR.eb hf e012
    have hb12 := e012 _ _ nb hb
    have hD12 := dh_ex e12 _ _ hD811
    have hc12 := (e11.trans e12) _ _ hc10
    -- the last: other items
    have last : ∀ (H13 : Hp) (y9 y10 y11 y12 : Option V), Ex H12 H13 → tRet (tCall (spRenamed C) [] C8.E0 (tCons (tVar 0) (tCons (tVar 1) (tCons (tVar 2) (tCons (tVar 3) (tCons (tVar 4) (tCons (tVar 5) (tCons (tVar 6) tNil))))))))
        { nx := fun _ H' => Q .non H', rt := Q } [some (.ref a), some (.int k), some (.ref r), some (.ref b), some (.str n), some (.int (i : Nat)), some (.ref c), some (.ref fq), some (.ref bk2), y9, y10, y11, y12] H13 := fun H13 y9 y10 y11 y12 e13 => by
      refine ⟨_, rfl, _, rfl, _, rfl, _, rfl, _, rfl, _, rfl, _, rfl, a, r, b, c, k, n, i, rows, g, [0, p], rfl, hR12.ex e13, ok, hne, e13 _ _ hb12, sok, cn.perm.mem_iff.mpr hn, hi, e13 _ _ hc12, (by show 2 ≤ 10; decide), fun H14 e14 => ?_⟩
      exact q _ (e012.trans (Eb.ofEx (e13.trans e14))) (hf12.ex (e13.trans e14))
    refine ⟨_, rfl, _, _, rfl, rfl, _, rfl, ?_⟩
    by_cases hk : k < 2
    · rw [decide_eq_true hk]
      refine iteT ?_
      have k01 : k = 0 ∨ k = 1 := by omega
      have hF : (kdOf (1 - k)).isF = (kdOf k).isF ∧ (kdOf k).isF = false := by
        rcases k01 with rfl | rfl <;> exact ⟨rfl, rfl⟩
      refine ⟨_, rfl, _, _, rfl, rfl, _, rfl, (by show 2 ≤ sizeLine; decide), fun t3 ht3 => ?_⟩
      have e13 : Ex H12 (upd H12 t3 (.tup [.int (1 - k), .ref r])) := Evl.Ex.new ht3
      have g13 : upd H12 t3 (.tup [.int (1 - k), .ref r]) t3 = some (.tup [.int (1 - k), .ref r]) := upd_same
      generalize upd H12 t3 (.tup [.int (1 - k), .ref r]) = H13 at e13 g13 ⊢
      refine ⟨t3, r, 1 - k, rows, rfl, g13, hR12.ex e13, ok, fun bk3 H14 hbk3 e14 hB3 => ?_⟩
      have e1214 := e13.trans e14
      have hc14 := e1214 _ _ hc12
      refine ⟨_, rfl, _, rfl, _, rfl, _, rfl, _, rfl, bk3, b, c, n, i, kdOf (1 - k), rows, g, B, [0, p], rfl, ⟨hB3, hne, few40, ok.nd, ok.its, e1214 _ _ hb12, sok, cn.kind hF.1⟩, hn, by rw [hl]; exact hi, hc14, (by show 2 ≤ 10; decide), fun fq3 H15 hfq3 e15 hD15 => ?_⟩
      have hD15' := dh_ex del_sub _ _ (hD15 c (by rw [hc14]; exact fun y => by cases y))
      refine ⟨_, rfl, _, _, _, rfl, hD15', dh_ex (e1214.trans e15) _ _ hD12, pu, sm, by omega, by omega, fun H16 e16 => ⟨true, rfl, iteF ?_⟩⟩
      have e1216 := (e1214.trans e15).trans e16
      -- near
      obtain ⟨ts9, hts9, hP9⟩ := hR12.ex e1216
      have hlen9 := hP9.len
      refine ⟨_, rfl, r, rfl, ⟨_, Evl.sq_of hts9⟩, fun D hD => ?_⟩
      refine lcP (walk_list (xs := ts9)) (fun j => (rows[j]?).bind fun o => if o.2 ≥ (rows.length : Int) then some (V.int 1) else none) hD (by omega) (fun H17 e => Evl.sq_of (e _ _ hts9)) (fun j x H17 H' Qy Qn hj e y k1 k2 => ?_) fun H17 e17 h17 => ?_
      · obtain ⟨rfl, hx⟩ := y
        obtain ⟨u, m, cc, rfl, hrow2, hu⟩ := hP9.at_ j x hx
        refine ⟨u, _, rfl, .inl (.inl (e _ _ hu)), rfl, _, _, rfl, _, _, rfl, rfl, rfl, ?_⟩
        refine ⟨_, rfl, _, rfl, r, _, rfl, .inl (Evl.sq_of (e _ _ hts9)), _, _, rfl, rfl, _, rfl, ?_⟩
        rw [hlen9]
        by_cases z : cc ≥ (rows.length : Int)
        · rw [decide_eq_true z]
          refine iteT (k1 _ _ (Evl.Ex.refl _) ?_)
          rw [hrow2]
          show (if _ then _ else _) = _
          rw [if_pos z]
        · rw [decide_eq_false z]
          refine iteF (k2 _ (Evl.Ex.refl _) ?_)
          rw [hrow2]
          show (if _ then _ else _) = _
          rw [if_neg z]
      · rw [hlen9, range_filter rows _ (fun o => if o.2 ≥ (rows.length : Int) then some (V.int 1) else none) fun j y hy => by rw [hy]; rfl, fm_filter rows (fun o => o.2 ≥ (rows.length : Int)) fun _ => V.int 1] at h17
        refine ⟨Nat.zero_le _, fun z1 hz1 => ?_⟩
        have e18 : Ex H17 (upd H17 z1 (.lst [])) := Evl.Ex.new hz1
        have g18 : upd H17 z1 (.lst []) z1 = some (.lst []) := upd_same
        generalize upd H17 z1 (.lst []) = H18 at e18 g18 ⊢
        have e1218 := e1216.trans (e17.trans e18)
        have dl : Dp K H18 (.ref D) (.list ((rows.filter fun o => decide (o.2 ≥ (rows.length : Int))).map fun _ => .int 1)) := .lst (Evl.sq_of (e18 _ _ h17)) (dpa_map _ _ _ fun _ _ => .int 1)
        have pl : pure0 (.list ((rows.filter fun o => decide (o.2 ≥ (rows.length : Int))).map fun _ => .int 1)) = true := by
          rw [pure0]; exact pureAll_map _ _ fun _ _ => by rw [pure0]
        have dpl : PyData.depth (.list ((rows.filter fun o => decide (o.2 ≥ (rows.length : Int))).map fun _ => .int 1)) ≤ 64 := by
          rw [PyData.depth]
          have := depthAll_map (rows.filter fun o => decide (o.2 ≥ (rows.length : Int))) (fun _ => PyData.int 1) 0 fun _ _ => by simp [PyData.depth]
          omega
        refine ⟨_, _, dl, .lst (Evl.sq_of g18) .nil, shaped_of pl dpl, by decide, ?_⟩
        cases hfil : rows.filter fun o => decide (o.2 ≥ (rows.length : Int)) with
        | cons o rr =>
          refine ⟨_, rfl, false, rfl, iteF (iteF ?_)⟩
          exact last H18 _ _ _ _ e1218
        | nil =>
          have near : ∀ r ∈ rows, r.2 < rows.length := fun r hr => by
            have := List.filter_eq_nil_iff.mp hfil r hr
            simp at this; exact this
          refine ⟨_, rfl, true, rfl, iteT ?_⟩
          refine ⟨_, rfl, _, rfl, _, rfl, _, rfl, r, b, n, i, rows, g, rfl, hR12.ex e1218, ok, hne, near, e1218 _ _ hb12, sok, cn.perm.mem_iff.mpr hn, hi, fun H19 e19 => ⟨true, rfl, iteF ?_⟩⟩
          exact last H19 _ _ _ _ (e1218.trans e19)
    · rw [decide_eq_false hk]
      exact iteF (last H12 _ _ _ _ (Evl.Ex.refl _))
end
end K21
/-! ## O28 -/
set_option Elab.async false
set_option linter.all false
set_option maxRecDepth 100000
set_option maxHeartbeats 4000000
/-! The law. -/
namespace K21
open PySem PySem.Spec PyProof.Rows L2
def spLaw (K : PySem.W.Frag) : Sp := fun vs H Q _ => ∃ (a : Addr) (ns : List Int), vs = [.ref a] ∧ SqL K H a (ns.map V.int) ∧ ∀ H', Q (.bl true) H'
section
variable {P : Program} {w : World} {K : PySem.W.Frag} {mg : Str → Option Value} {base : Heap} {C : Kd → Addr} {CB RC : Addr}
abbrev slaw : Stmt := top 81
abbrev Nlaw : List Str := ["_law_script", "_law_k", "_law_feed_here", "_law_most", "_law_kind", "_law_rows", "_law_sights_here"]
theorem sclaw : FnScope Nlaw ["_law_script"] (defScope slaw) := ⟨rfl, rfl, rfl, by decide +kernel, rfl, by decide +kernel, by decide +kernel⟩
-- 0 _law_script, 1 _law_k, 2 _law_feed_here, 3 _law_most, 4 _law_kind, 5 _law_rows, 6 _law_sights_here
theorem law_len {vs : List V} {H : Hp} {Q : VK} {E : XK} (h : spLaw K vs H Q E) : vs.length = (["_law_script"] : List Str).length := by
  obtain ⟨a, ns, rfl, _⟩ := h
  rfl
theorem law_body (T : Txt K mg C CB RC) (c__law_feed : C8.Cal P w K mg base 1 "_law_feed" (spFeed K) []) (c__law_pick : C8.Cal P w K mg base 1 "_law_pick" spPick []) (c__law_model : C8.Cal P w K mg base 4 "_law_model" spModel []) (c__law_sights : C8.Cal P w K mg base 3 "_law_sights" spSights []) (c__law_right : OCal P w K mg base 25 "_law_right" spRight) : OBody P w K mg base Nlaw "law" slaw 25 (spLaw K) := by
  intro f cdv A outer s H vs Q E hr h
  have dummy : True := trivial
  · obtain ⟨a, ns, rfl, hs, q⟩ := h
    refine ⟨_, (oss_cons (os_for nox_nox rfl (pi_range1 (by rfl) T.range_ (pa_cons pe_int pa_nil)) (pg_name (i := 1) sclaw.nd rfl (Or.inl rfl)) (oss_cons (os_of nox_nox (ps_set (i := 2) sclaw.nd rfl (Or.inl rfl) (C8.pe_c c__law_feed hr (by decide) (by rfl) (pa_cons (pv 0) (pa_cons (pv 1) pa_nil)))))
      (oss_one (os_for nox_nox rfl (pi_list_k K (pe_lst (pa_cons pe_int (pa_cons (pe_ix (ix_list_k K) (pe_lst (pa_cons pe_int (pa_cons pe_int (pa_cons pe_int (pa_cons pe_int pa_nil))))) (C8.pe_c c__law_pick hr (by decide) (by rfl) (pa_cons (pv 2) (pa_cons pe_int pa_nil))) (fun _ _ => rfl)) pa_nil)))) (pg_name (i := 3) sclaw.nd rfl (Or.inl rfl)) (oss_cons (os_of nox_nox (ps_asg (C8.pe_c c__law_model hr (by decide) (by rfl) (pa_cons (pv 2) (pa_cons (pv 3) pa_nil))) (pg_tup_k K (n := 2) rfl (pgs_cons (pg_name (i := 4) sclaw.nd rfl (Or.inl rfl)) (pgs_cons (pg_name (i := 5) sclaw.nd rfl (Or.inl rfl)) pgs_nil)))))
      (oss_cons (os_of nox_nox (ps_set (i := 6) sclaw.nd rfl (Or.inl rfl) (C8.pe_c c__law_sights hr (by decide) (by rfl) (pa_cons (pv 2) (pa_cons (pe_tup (pa_cons (pv 4) (pa_cons (pv 5) pa_nil))) pa_nil)))))
      (oss_one (os_if (opt_andNot (opt_of nox_nox (pt_cmpR (op_neNil_k K (hr_u hr)) (pv 5) (pe_lst pa_nil) (nomark _))) (ope_c nox_nox c__law_right hr (by decide) (by rfl) (pa_cons (pv 2) (pa_cons (pv 4) (pa_cons (pv 5) (pa_cons (pv 6) pa_nil)))))) (oss_of nox_nox (pss_one (ps_ret pe_bl))) (oss_of nox_nox pss_nil)))))))))
      (oss_of nox_nox (pss_one (ps_ret pe_bl)))), ?_⟩
    refine ⟨1, rfl, (by omega), (by omega), ?_⟩
    refine for_it (walk_range (n := 1)) (fun i σ H1 => i = 0 → σ = [some (.ref a), none, none, none, none, none, none] ∧ H1 = H) (fun _ => ⟨rfl, rfl⟩) (fun _ _ _ _ _ => trivial) (fun i x σ H1 H' hi P y => ?_) fun σ H1 P => ?_
    · have hi : i < 1 := hi
      have hi0 : i = 0 := by omega
      subst hi0
      obtain ⟨rfl, rfl⟩ := P rfl
      obtain ⟨rfl, ey⟩ := y
      have ey : x = .int 0 := ey
      subst ey
      refine ⟨_, rfl, _, rfl, a, ns, rfl, hs, fun fa H2 hfa e2 hf2 => ?_⟩
      refine ⟨(by show 4 ≤ sizeLine; decide), fun l1 hl1 => ?_⟩
      have e3 : Ex H2 (upd H2 l1 (.lst [.int 6, .int 12, .int 20, .int 30])) := Evl.Ex.new hl1
      have g3 : upd H2 l1 (.lst [.int 6, .int 12, .int 20, .int 30]) l1 = some (.lst [.int 6, .int 12, .int 20, .int 30]) := upd_same
      have n1 : fa ≠ l1 := feed_some hf2 hl1
      generalize upd H2 l1 (.lst [.int 6, .int 12, .int 20, .int 30]) = H3 at e3 g3 ⊢
      refine ⟨_, rfl, fa, 4, rfl, hf2.ex e3, by omega, small_le (by omega), fun j H4 e4 hf4 j0 j1 => ?_⟩
      refine ⟨l1, _, _, _, rfl, rfl, Evl.sq_of (e4 _ _ n1.symm g3), four_at _ _ _ _ j0 j1, ?_⟩
      obtain ⟨m, hm, hm30⟩ : ∃ m : Nat, (if j = 0 then V.int 6 else if j = 1 then V.int 12 else if j = 2 then V.int 20 else V.int 30) = .int (m : Nat) ∧ m ≤ 30 := by
        split
        · exact ⟨6, rfl, by omega⟩
        · split
          · exact ⟨12, rfl, by omega⟩
          · split
            · exact ⟨20, rfl, by omega⟩
            · exact ⟨30, rfl, by omega⟩
      rw [hm]
      refine ⟨(by show 2 ≤ sizeLine; decide), fun L hL => ?_⟩
      have e5 : Ex H4 (upd H4 L (.lst [.int 5, .int (m : Nat)])) := Evl.Ex.new hL
      have g5 : upd H4 L (.lst [.int 5, .int (m : Nat)]) L = some (.lst [.int 5, .int (m : Nat)]) := upd_same
      have nL : L ≠ fa := (feed_some hf4 hL).symm
      generalize upd H4 L (.lst [.int 5, .int (m : Nat)]) = H5 at e5 g5 ⊢
      refine ⟨L, rfl, ⟨_, Evl.sq_of g5⟩, for_it (walk_list (xs := [V.int 5, V.int (m : Nat)])) (fun i σ H6 => ∃ y3 y4 y5 y6, σ = [some (.ref a), some (.int 0), some (.ref fa), y3, y4, y5, y6] ∧ FeedAt H6 fa ∧ H6 L = some (.lst [.int 5, .int (m : Nat)]))
        ⟨none, none, none, none, rfl, hf4.ex e5, g5⟩ (fun i σ H6 _ P => ?_) (fun i x σ H6 H' hi P y => ?_) fun σ H6 P => ?_⟩
      · obtain ⟨_, _, _, _, _, _, g6⟩ := P
        exact Evl.sq_of g6
      · obtain ⟨y3, y4, y5, y6, rfl, hf6, g6⟩ := P
        obtain ⟨rfl, hx⟩ := y
        obtain ⟨mm, rfl, hmm⟩ : ∃ mm : Nat, x = .int (mm : Nat) ∧ mm ≤ 30 := by
          cases i with
          | zero => exact ⟨5, (Option.some.inj hx).symm, by omega⟩
          | succ i =>
            cases i with
            | zero => exact ⟨m, (Option.some.inj hx).symm, hm30⟩
            | succ i => simp at hx
        refine ⟨_, rfl, _, rfl, fa, mm, rfl, hf6, hmm, fun q1 r H7 k rows e7 hf7 h7 hR k0 k3 ok => ?_⟩
        have g7 := e7 _ _ nL g6
        refine ⟨q1, _, rfl, .inl (.inl h7), rfl, _, _, rfl, _, _, rfl, rfl, ?_⟩
        refine ⟨_, rfl, _, rfl, _, rfl, (by show 2 ≤ sizeLine; decide), fun t ht => ?_⟩
        have e8 : Ex H7 (upd H7 t (.tup [.int k, .ref r])) := Evl.Ex.new ht
        have g8 : upd H7 t (.tup [.int k, .ref r]) t = some (.tup [.int k, .ref r]) := upd_same
        generalize upd H7 t (.tup [.int k, .ref r]) = H8 at e8 g8 ⊢
        have hf8 := hf7.ex e8
        have hR8 := hR.ex e8
        refine ⟨fa, t, r, k, rows, rfl, hf8, g8, hR8, ok, fun sb H9 g hsb e9 hf9 h9 sok => ?_⟩
        have hR9 := hR8.eb hf8 e9
        have g9 := e9 _ _ nL (e8 _ _ g7)
        obtain ⟨ts, hts, hP⟩ := id hR9
        refine ⟨_, rfl, Nat.zero_le _, fun z1 hz1 => ?_⟩
        have e10 : Ex H9 (upd H9 z1 (.lst [])) := Evl.Ex.new hz1
        have gz : upd H9 z1 (.lst []) z1 = some (.lst []) := upd_same
        generalize upd H9 z1 (.lst []) = H10 at e10 gz ⊢
        have hf10 := hf9.ex e10
        refine ⟨r, z1, ts, rfl, rfl, Evl.sq_of (e10 _ _ hts), Evl.sq_of gz, _, rfl, ?_⟩
        cases hte : ts with
        | nil => exact iteF (iteF ⟨_, _, _, _, rfl, hf10, e10 _ _ g9⟩)
        | cons x0 tr =>
          have hne : rows ≠ [] := fun z => by
            have := hP.len
            rw [z, hte] at this
            simp at this
          refine iteT ?_
          refine ⟨_, rfl, _, rfl, _, rfl, _, rfl, fa, r, sb, k, rows, g, rfl, hf10, k0, k3, hR9.ex e10, ok, hne, e10 _ _ h9, sok, fun H11 e11 hf11 => ⟨true, rfl, iteF ?_⟩⟩
          exact ⟨_, _, _, _, rfl, hf11, e11 _ _ nL (e10 _ _ g9)⟩
      · exact fun h => by omega
    · exact q H1
end
end K21
/-! ## S20 -/
set_option maxHeartbeats 4000000
set_option Elab.async false
set_option linter.all false
set_option maxRecDepth 100000
/-! Generators: what one will hand out. -/
namespace K21
open PySem PySem.Spec PyProof.Rows L2
open Sem (wp)
theorem setGen_size' (s : Shared) (g : Nat) (x : GenState) : (s.setGen g x).gens.size = s.gens.size := by simp [Shared.setGen]
theorem step_gsz (den : Code → Sem PySem.Fin) (prog : Program) (w : World) {s s' : Shared} {t t' : Thread} (h : step den prog w s t = .go s' t') : s.gens.size ≤ s'.gens.size := by
  obtain ⟨heap, gens, drawn, toks, os⟩ := s
  obtain ⟨cur, code, pos, stack⟩ := t
  simp only [step] at h
  repeat' split at h
  all_goals first
    | (cases h; simp only [Array.size_setIfInBounds, Array.size_push]; omega)
    | (simp only [finish] at h; split at h <;> cases h)
    | cases h
theorem step_hsz (den : Code → Sem PySem.Fin) (prog : Program) (w : World) {s s' : Shared} {t t' : Thread} (h : step den prog w s t = .go s' t') : s.heap.objs.size ≤ s'.heap.objs.size := by
  obtain ⟨heap, gens, drawn, toks, os⟩ := s
  obtain ⟨cur, code, pos, stack⟩ := t
  simp only [step] at h
  repeat' split at h
  all_goals first
    | (cases h; first | exact Nat.le_refl _ | (simp only [Heap.size_push]; omega) | (simp only [Heap.size_update]; omega) | (simp; done) | (simp; omega))
    | (simp only [finish] at h; split at h <;> cases h)
    | cases h
theorem go_hsz {M : Model} {s s' : Shared} {t t' : Thread} (h : Go M s t s' t') : s.heap.objs.size ≤ s'.heap.objs.size := by
  induction h with
  | refl => exact Nat.le_refl _
  | step _ hs _ ih =>
    refine Nat.le_trans ?_ ih
    unfold stepK at hs
    split at hs
    · cases hs; exact Nat.le_refl _
    · cases hs; exact Nat.le_refl _
    · exact step_hsz _ _ _ hs
theorem go_gsz {M : Model} {s s' : Shared} {t t' : Thread} (h : Go M s t s' t') : s.gens.size ≤ s'.gens.size := by
  induction h with
  | refl => exact Nat.le_refl _
  | step _ hs _ ih =>
    refine Nat.le_trans ?_ ih
    unfold stepK at hs
    split at hs
    · cases hs; exact Nat.le_refl _
    · cases hs; exact Nat.le_refl _
    · exact step_gsz _ _ _ hs
/-- all but the generators of these numbers are bare -/
def BareBut (N : List Nat) (gs : Array GenState) : Prop := ∀ i x, gs[i]? = some x → i ∉ N → x.bare = true
/-- a list of these values stands there -/
def RowH (x : List V) (a : Addr) (h : Heap) : Prop := x.length ≤ sizeLine ∧ ∃ acc c, h.get? a = some (lstObj acc c) ∧ Vals x acc.toList
/-- from the wake to the handing out: the consumer's objects W and what was handed out, Pn, stand -/
structure Seen (W Pn : List Addr) (lo : Nat) (N : List Nat) (s₀ s : Shared) : Prop where
  os : s.os = s₀.os
  keep : ∀ b, b ∈ W ∨ b ∈ Pn → ∀ o, s₀.heap.get? b = some o → s.heap.get? b = some o
  sz : s₀.heap.objs.size ≤ s.heap.objs.size
  gens : BareBut N s.gens
  own : ∀ i ∈ N, lo ≤ i
  lim : s.heap.NoLimit
/-- from the handing out to the next wake -/
structure Woke (W W' : List Addr) (N : List Nat) (s s' : Shared) : Prop where
  os : s'.os = s.os
  gens : BareBut N s'.gens
  same : ∀ i ∈ N, s'.gens[i]? = s.gens[i]?
  sub : ∀ b ∈ W, b ∈ W'
  new : ∀ b ∈ W', b ∈ W ∨ s.heap.objs.size ≤ b
  keep : ∀ b o, b ∉ W' → s.heap.get? b = some o → s'.heap.get? b = some o
  there : ∀ b ∈ W', ∃ o, s'.heap.get? b = some o ∧ ∀ v, o.data ≠ .cell v
  sz : s.heap.objs.size ≤ s'.heap.objs.size
  gsz : s.gens.size ≤ s'.gens.size
  lim : s'.heap.NoLimit
/-- it suspends so that nothing shows -/
def SoftAt (gg : Bool) (c : Code) (h : Heap) : Prop := gg = true → ∃ (d : Addr) (r : List Value) (kw : List (Str × Value)) (o : Obj), c = .builtin "proto.yield_from" ⟨.ref d :: r, kw⟩ ∧ h.get? d = some o ∧ o.genNumber?.isSome = true
abbrev At := Shared → Sem PySem.Fin → Code → Pos → List Frame → Prop
/-- a woken body comes to X -/
def Till (M : Model) (A : Around) (lo : Nat) (X : At) (c : Code) (t : Sem PySem.Fin) (fs : List Frame) (s : Shared) : Prop :=
  ∀ (Γ : PySem.Ctx) (g : Nat) (k : GenResult → Sem PySem.Fin) (l : List Value) (c1 : Code) (p1 : Pos) (st : List Frame) (p : Pos), g < lo → Γ.code = c → Γ.Woken A → Γ.Fits (.gen g k l c1 p1 :: st) →
    ∃ s' t' c' p' fs', Go M s ⟨t, c, p, fs ++ .gen g k l c1 p1 :: st⟩ s' ⟨t', c', p', fs' ++ .gen g k l c1 p1 :: st⟩ ∧ X s' t' c' p' fs'
abbrev GEnd := List Addr → List Addr → Shared → Shared → Prop
def Out (M : Model) (A : Around) (lo : Nat) (I : Addr → Prop) (R : GEnd) : List (List V) → List Addr → List Addr → Shared → At
  | [] => fun W Pn s₀ s' t' _ _ fs' => fs' = [] ∧ (t' = leafOf (.ok (.ret .none)) ∨ t' = leafOf (.ok .next)) ∧ R W Pn s₀ s'
  | x :: xs => fun W Pn s₀ s' t' c' _ fs' => ∃ (a : Addr) (gg : Bool) (ll : List Value) (kk : Resume → Sem PySem.Fin) (N : List Nat), t' = .yield (.ref a) gg ll kk ∧ splitAtGen fs' = none ∧ fs'.any Frame.guarded = false ∧ SoftAt gg c' s'.heap ∧
      RowH x a s'.heap ∧ a ∉ W ∧ a ∉ Pn ∧ I a ∧ Seen W Pn lo N s₀ s' ∧ ∀ W' s'', Woke W W' N s' s'' → Till M A lo (Out M A lo I R xs W' (a :: Pn) s'') c' (kk (.send .none)) fs' s''
abbrev Will (M : Model) (A : Around) (lo : Nat) (I : Addr → Prop) (R : GEnd) (xs : List (List V)) (W Pn : List Addr) (s₀ : Shared) (c : Code) (t : Sem PySem.Fin) (fs : List Frame) (s : Shared) : Prop := Till M A lo (Out M A lo I R xs W Pn s₀) c t fs s
section
variable {M : Model} {A : Around} {lo : Nat} {X : At} {c : Code} {fs : List Frame} {s : Shared} {α : Type}
theorem till_wrap {m : Sem α} {K : α → Sem PySem.Fin} {H : Value → Sem PySem.Fin} {gd lv} (h : RunsOn M (A.over c fs) m (fun a s' => Till M A lo X c (K a) fs s') (fun e s' => Till M A lo X c (H e) fs s') s) : Till M A lo X c (m.wrap K H gd lv) fs s := by
  rintro Γ g k l c1 p1 st p hg rfl hw hf
  rcases h (Γ.over fs) (fs ++ .gen g k l c1 p1 :: st) K H gd lv p (hw.over fs) (hf.over fs) with ⟨a, s', p', h1, h2⟩ | ⟨a, s', p', h1, h2⟩
  all_goals
    obtain ⟨s2, t2, c2, p2, fs2, h3, h4⟩ := h2 Γ g k l c1 p1 st p' hg rfl hw hf
    exact ⟨s2, t2, c2, p2, fs2, h1.trans h3, h4⟩
theorem till_bind {m : Sem α} {K : α → Sem PySem.Fin} (h : RunsOn M (A.over c fs) m (fun a s' => Till M A lo X c (K a) fs s') NoE s) : Till M A lo X c (m >>= K) fs s := by
  rw [Sem.bind_eq_wrap']
  exact till_wrap (on_mono h (fun _ _ q => q) fun _ _ q => q.elim)
theorem till_at {p' : Pos} {k : Unit → Sem PySem.Fin} (h : Till M A lo X c (k ()) fs s) : Till M A lo X c (.at p' k) fs s := by
  rintro Γ g kk l c1 p1 st p hg rfl hw hf
  obtain ⟨s2, t2, c2, p2, fs2, h3, h4⟩ := h Γ g kk l c1 p1 st p' hg rfl hw hf
  exact ⟨s2, t2, c2, p2, fs2, .one (step_at ..) h3, h4⟩
theorem till_point {v : List Value} {k : Unit → Sem PySem.Fin} (h : Till M A lo X c (k ()) fs s) : Till M A lo X c (.point v k) fs s := by
  rintro Γ g kk l c1 p1 st p hg rfl hw hf
  obtain ⟨s2, t2, c2, p2, fs2, h3, h4⟩ := h Γ g kk l c1 p1 st p hg rfl hw hf
  exact ⟨s2, t2, c2, p2, fs2, .one (step_point ..) h3, h4⟩
theorem till_rule {t : String} {k : Unit → Sem PySem.Fin} (h : Till M A lo X c (k ()) fs s) : Till M A lo X c (.rule t k) fs s := by
  rintro Γ g kk l c1 p1 st p hg rfl hw hf
  obtain ⟨s2, t2, c2, p2, fs2, h3, h4⟩ := h Γ g kk l c1 p1 st p hg rfl hw hf
  exact ⟨s2, t2, c2, p2, fs2, .one (step_rule ..) h3, h4⟩
theorem till_call {c' : Code} {h : Option Value} {g : Bool} {l : List Value} {k : Result → Sem PySem.Fin} (hc : ∀ p, Till M A lo X c' (M.den c') (.ret k h g l c p [] :: fs) s) : Till M A lo X c (.call c' h g l k) fs s := by
  rintro Γ gn kk ll c1 p1 st p hg rfl hw hf
  obtain ⟨s2, t2, c2, p2, fs2, h3, h4⟩ := hc p (Γ.goto c') gn kk ll c1 p1 st p hg rfl (hw.goto c') (hf.goto c')
  exact ⟨s2, t2, c2, p2, fs2, .one (step_call ..) h3, h4⟩
theorem till_leaf {k : Result → Sem PySem.Fin} {h : Option Value} {g : Bool} {l kp : List Value} {c₁ : Code} {p₁ : Pos} (r : Result) (hk : Till M A lo X c₁ (k r) fs s) : Till M A lo X c (leafOf r) (.ret k h g l c₁ p₁ kp :: fs) s := by
  rintro Γ gn kk ll c1 p1 st p hg rfl hw hf
  obtain ⟨s2, t2, c2, p2, fs2, h3, h4⟩ := hk (Γ.goto c₁) gn kk ll c1 p1 st p₁ hg rfl (hw.goto c₁) (hf.goto c₁)
  exact ⟨s2, t2, c2, p2, fs2, .one (step_leaf_ret ..) h3, h4⟩
theorem till_again {c' : Code} (hq : c'.quiet = true) (hc : Till M A lo X c' (M.den c') fs s) : Till M A lo X c (.pure (.again c')) fs s := by
  rintro Γ gn kk ll c1 p1 st p hg rfl hw hf
  obtain ⟨s2, t2, c2, p2, fs2, h3, h4⟩ := hc (Γ.goto c') gn kk ll c1 p1 st p hg rfl (hw.goto c') (hf.goto c')
  exact ⟨s2, t2, c2, p2, fs2, .one (step_again _ _ _ _ _ _ hq) h3, h4⟩
theorem till_here {t : Sem PySem.Fin} (h : ∀ p, X s t c p fs) : Till M A lo X c t fs s := by
  rintro Γ gn kk ll c1 p1 st p hg rfl hw hf
  exact ⟨s, t, _, p, fs, .refl, h p⟩
/-- the heap and the table of generators never shrink -/
theorem on_grown {m : Sem α} {Q : α → Shared → Prop} {E : Value → Shared → Prop} (h : RunsOn M A m Q E s) : RunsOn M A m (fun a s' => s.heap.objs.size ≤ s'.heap.objs.size ∧ s.gens.size ≤ s'.gens.size ∧ Q a s') (fun e s' => s.heap.objs.size ≤ s'.heap.objs.size ∧ s.gens.size ≤ s'.gens.size ∧ E e s') s := fun Γ st K H gd lv p hi hf => by
  rcases h Γ st K H gd lv p hi hf with ⟨a, s', p', h1, h2⟩ | ⟨a, s', p', h1, h2⟩
  · exact .inl ⟨a, s', p', h1, go_hsz h1, go_gsz h1, h2⟩
  · exact .inr ⟨a, s', p', h1, go_hsz h1, go_gsz h1, h2⟩
/-- a sleeping or fresh generator, woken -/
def Goes1 (M : Model) (A : Around) (lo : Nat) (X : At) (gs : GenState) (s : Shared) : Prop := match gs with
  | .fresh c => Till M A lo X c (M.den c) [] s
  | .suspended kk _ c _ fs _ => Till M A lo X c (kk (.send .none)) fs s
  | _ => False
theorem on_resume {g : Nat} {gs : GenState} {l : List Value} {k : GenResult → Sem α} {Q : α → Shared → Prop} {E : Value → Shared → Prop} (hg : s.gens[g]? = some gs) (hlo : g < lo) (h : Goes1 M A lo X gs (s.setGen g .running))
    (hX : ∀ s' t' c' p' fs', s.heap.objs.size ≤ s'.heap.objs.size → s.gens.size ≤ s'.gens.size → X s' t' c' p' fs' → (fs' = [] ∧ ∃ r, t' = leafOf r ∧ RunsOn M A (k (End.ret r).result) Q E (s'.setGen g .finished)) ∨
      ∃ v gg ll kk, t' = .yield v gg ll kk ∧ splitAtGen fs' = none ∧ fs'.any Frame.guarded = false ∧ SoftAt gg c' s'.heap ∧ RunsOn M A (k (.yielded v)) Q E (s'.setGen g (.suspended kk ll c' p' fs' gg))) :
    RunsOn M A (.resume g (.send .none) l k) Q E s := by
  intro Γ st K H gd lv p hi hf
  have main : ∀ {c : Code} {t : Sem PySem.Fin} {fs : List Frame} {q : Pos}, Till M A lo X c t fs (s.setGen g .running) → Lands M Γ.code st K H (fun a _ => Q a) (fun e _ => E e) (s.setGen g .running) ⟨t, c, q, fs ++ .gen g (fun x => (k x).wrap K H gd lv) (lv l) Γ.code p :: st⟩ := by
    intro c t fs q ht
    obtain ⟨s', t', c', p', fs', h1, h2⟩ := ht (Γ.wake c p) g (fun x => (k x).wrap K H gd lv) (lv l) Γ.code p st q hlo rfl (hi.wake c p) (hf.wake c g _ _ p)
    have hz : s.gens.size ≤ s'.gens.size := by
      have := go_gsz h1
      rwa [setGen_size'] at this
    refine Lands.after h1 ?_
    have hsz : s.heap.objs.size ≤ s'.heap.objs.size := go_hsz (s := s.setGen g .running) h1
    rcases hX s' t' c' p' fs' hsz hz h2 with ⟨rfl, r, rfl, h3⟩ | ⟨v, gg, ll, kk, rfl, h3, h4, h5, h6⟩
    · exact Lands.via (step_leaf_gen ..) (h3 Γ st K H gd lv p hi hf)
    · have hs : splitAtGen (fs' ++ .gen g (fun x => (k x).wrap K H gd lv) (lv l) Γ.code p :: st) = some (fs', (g, (fun x => (k x).wrap K H gd lv), Γ.code, p), st) := by
        rw [splitAtGen_append_none _ h3, splitAtGen_gen]; simp
      refine Lands.after (.step (s₁ := s'.setGen g (.suspended kk ll c' p' fs' gg)) (t₁ := ⟨(k (.yielded v)).wrap K H gd lv, Γ.code, p, st⟩) ?_ ?_ .refl) (h6 Γ st K H gd lv p hi hf)
      · unfold mild
        rw [Bool.or_eq_true]
        right
        unfold softly
        simp only [hs, h4, Bool.not_false, Bool.true_and, Bool.or_eq_true, Bool.not_eq_true']
        cases gg with
        | false => exact .inl rfl
        | true =>
          right
          obtain ⟨d, r, kw, o, rfl, ho, hn⟩ := h5 rfl
          simp only [ho, Option.any_some]
          exact hn
      · simp only [PySem.stepK, PySem.step, hs, h4, Bool.or_false]
        rfl
  cases gs with
  | fresh c => exact Lands.via (step_resume_fresh _ _ _ _ _ _ _ hg) (main (fs := []) h)
  | suspended k₀ l₀ c₀ p₀ fs₀ cl => exact Lands.via (step_resume_suspended _ _ _ _ _ _ _ _ hg) (main h)
  | running => exact h.elim
  | finished => exact h.elim
end
end K21
/-! ## S21 -/
set_option maxHeartbeats 4000000
set_option Elab.async false
set_option linter.all false
set_option maxRecDepth 100000
/-! The next item of a generator, in the wide logic. -/
namespace K21
open PySem PySem.Spec PyProof.Rows L2
open Sem (wp)
/-- a generator object of number g; n: the mark of its delegator -/
def GenN (h : Heap) (a : Addr) (g : Nat) (n : Int) : Prop := ∃ o nm qn, h.get? a = some o ∧ o.cls = .type "generator" ∧ o.data = .fields #[.int g 0, nm, qn] ∧ ((n = 0 ∧ o.slots = #[]) ∨ ∃ u, o.slots = #[some (.int n u)])
theorem GenN.keeps {h h' : Heap} {a : Addr} {g : Nat} {n : Int} (x : GenN h a g n) (hk : ∀ o, h.get? a = some o → h'.get? a = some o) : GenN h' a g n :=
  let ⟨o, nm, qn, ho, r⟩ := x; ⟨o, nm, qn, hk _ ho, r⟩
theorem GenN.ty {s : Shared} {a : Addr} {g : Nat} {n : Int} (x : GenN s.heap a g n) : s.TypeIs (.ref a) "generator" := let ⟨o, _, _, ho, hc, _⟩ := x; ⟨o, ho, hc⟩
theorem GenN.lt {h : Heap} {a : Addr} {g : Nat} {n : Int} (x : GenN h a g n) : a < h.objs.size := let ⟨_, _, _, ho, _⟩ := x; Heap.lt_size ho
theorem GenN.num {h : Heap} {a : Addr} {g : Nat} {n : Int} (x : GenN h a g n) : ∃ o, h.get? a = some o ∧ o.genNumber?.isSome = true ∧ ∀ v, o.data ≠ .cell v := by
  obtain ⟨o, nm, qn, ho, hc, hd, _⟩ := x
  refine ⟨o, ho, ?_, fun v q => by rw [hd] at q; cases q⟩
  unfold Obj.genNumber?
  simp [hc, hd]
section
variable {M : Model} {A : Around} {E : Value → Shared → Prop} {s : Shared}
theorem genNumberN {a : Addr} {g : Nat} {n : Int} {Q : Nat → Shared → Prop} (hg : GenN s.heap a g n) (h0 : n ≤ 0) (h : Q g s) : wpAny M A (Builtin.Generator.genNumber (.ref a)) Q E s := by
  obtain ⟨o, nm, qn, ho, _, hd, hsl⟩ := hg
  unfold Builtin.Generator.genNumber
  refine wpAny_bind (wpAny_load ho ?_)
  have last : wpAny M A (pure ((g : Int).toNat)) Q E s := by rw [Int.toNat_natCast]; exact wpAny_pure h
  rcases hsl with ⟨_, hsl⟩ | ⟨u, hsl⟩
  · rw [hsl, hd]
    exact last
  · rw [hsl, hd]
    show wpAny M A (if n > 0 then (_ : Sem Nat) else _) Q E s
    rw [if_neg (by omega)]
    exact last
/-- the delegator's mark -/
theorem sleptOverN {a : Addr} {g : Nat} {n : Int} {b : Bool} {Q : Unit → Shared → Prop} (hg : GenN s.heap a g n)
    (h : ∀ h', GenN h' a g (if b then n + 1 else n - 1) → (∀ c o, c ≠ a → s.heap.get? c = some o → h'.get? c = some o) → h'.objs.size = s.heap.objs.size → Q () { s with heap := h' }) :
    wpAny M A (Builtin.Generator.sleptOver (.ref a) b) Q E s := by
  obtain ⟨o, nm, qn, ho, hc, hd, hsl⟩ := hg
  unfold Builtin.Generator.sleptOver
  refine wpAny_bind (wpAny_load ho ?_)
  have ne : ¬ ((o.cls != Value.type "generator") = true) := by rw [hc]; decide
  have fin : ∀ m : Int, m = n → wpAny M A (setSlotAt a 0 (some (rawInt (if b then m + 1 else m - 1)))) Q E s := fun m em => by
    subst em
    unfold setSlotAt
    dsimp only
    rw [if_neg (by decide)]
    refine (wpAny_updatePart ho (h _ ⟨_, nm, qn, Heap.get?_update_self _ ho (by unfold Obj.isFreed; simp [hd]), hc, hd, .inr ⟨0, ?_⟩⟩ (fun c o' hca e => (Heap.get?_update_other _ _ (Ne.symm hca)).trans e) (by simp)))
    rcases hsl with ⟨_, hsl⟩ | ⟨u, hsl⟩
    · simp [hsl, rawInt]
    · simp [hsl, rawInt]
  rw [if_neg ne]
  rcases hsl with ⟨h0, hsl'⟩ | ⟨u, hsl'⟩
  · rw [hsl']
    exact wpAny_bind (wpAny_pure (fin 0 h0.symm))
  · rw [hsl']
    exact wpAny_bind (wpAny_pure (fin n rfl))
end
theorem on_attempt {M : Model} {A : Around} {s : Shared} {α : Type} {m : Sem α} {Q : Except Value α → Shared → Prop} {E : Value → Shared → Prop} (h : RunsOn M A m (fun a => Q (.ok a)) (fun e => Q (.error e)) s) : RunsOn M A m.attempt Q E s := by
  unfold Sem.attempt
  exact on_tryCatch (on_bind (on_mono h (fun a s' q => on_pure q) fun e s' q => on_pure q))
section
variable {P : Program} {w : World} {A : Around} {s : Shared}
theorem on_slotCall {T : String} {name : Str} {id : String} {b : Builtin} {self : Value} {rest : List Value} {Q : Value → Shared → Prop} {E : Value → Shared → Prop} (h : Slot T name id) (hT : s.TypeIs self T) (hb : entryFor table id = some b) (ha : argsOk id ⟨self :: rest, []⟩)
    (hc : RunsOn (model P w) A.in1 (b ⟨self :: rest, []⟩) (fun fin s' => ∃ v, fin = .done (.ret v) ∧ Q v s') E s) : RunsOn (model P w) A (call (.builtin id) (self :: rest)) Q E s := by
  refine on_call (code_tree ?_)
  show RunsOn _ A.in1 (do checkBuiltinCall id ⟨self :: rest, []⟩; again (.builtin id ⟨self :: rest, []⟩)) _ _ s
  refine on_bind (on_of (h.check _ _ _ _ _ _ _ _ hT ha ?_))
  refine on_pure ⟨plainId_quiet h.plain _, code_tree ?_⟩
  show RunsOn _ _ (match entryFor table id with | some b => b ⟨self :: rest, []⟩ | none => unsupported ((withoutEnding? id "#data").getD id)) _ _ s
  rw [hb, Around.under_plainId h.plain]
  refine on_mono hc (fun fin s' ⟨v, e, q⟩ => ?_) fun _ _ q => q
  subst e
  exact q
theorem on_special {self : Value} {T : String} {name : Str} {id : String} {args : List Value} {Q : Option Value → Shared → Prop} {E : Value → Shared → Prop} (hT : s.TypeIs self T) (h : Slot T name id)
    (hc : RunsOn (model P w) A (call (.builtin id) (self :: args)) (fun v => Q (some v)) E s) : RunsOn (model P w) A (callSpecial? self name args) Q E s := by
  simp only [callSpecial?]
  refine on_bind (on_of (wpAny_specialOf hT h.lookup ?_))
  simp only [h.bind]
  exact on_hold (on_bind (on_pure (on_bind (on_mono hc (fun v s' q => on_pure q) fun _ _ q => q))))
/-- what a generator that hands out xs does when it is asked -/
theorem on_genNext {lo : Nat} {I : Addr → Prop} {R : GEnd} {xs : List (List V)} {W Pn : List Addr} {a : Addr} {g : Nat} {n : Int} {gs : GenState} {Q : Option Value → Shared → Prop} {E : Value → Shared → Prop} (hh : A.handled = none) (hl : s.heap.NoLimit) (hroom : A.depth < recursionLimit) (hg : GenN s.heap a g n) (hn : n ≤ 0)
    (hgs : s.gens[g]? = some gs) (hlo : g < lo) (hgo : Goes1 (model P w) A.in1 lo (Out (model P w) A.in1 lo I R xs W Pn (s.setGen g .running)) gs (s.setGen g .running))
    (hY : ∀ x ys, xs = x :: ys → ∀ s' b N gs', s.gens.size ≤ s'.gens.size → RowH x b s'.heap → b ∉ W → b ∉ Pn → I b → Seen W Pn lo N (s.setGen g .running) s' →
      (∀ W' s'', Woke W W' N s' s'' → Goes1 (model P w) A.in1 lo (Out (model P w) A.in1 lo I R ys W' (b :: Pn) s'') gs' s'') → Q (some (.ref b)) (s'.setGen g gs'))
    (hP : xs = [] → ∀ s', s.heap.objs.size ≤ s'.heap.objs.size → s.gens.size ≤ s'.gens.size → R W Pn (s.setGen g .running) s' → ∀ e h', StopX e h' → (∀ b o, s'.heap.get? b = some o → h'.get? b = some o) → s'.heap.objs.size ≤ h'.objs.size → E e { s'.setGen g .finished with heap := h' }) :
    RunsOn (model P w) A (callSpecial? (.ref a) "__next__") Q E s := by
  refine on_special (name := Str.ofString "__next__") hg.ty slot_gen_next (on_slotCall slot_gen_next hg.ty entry_gen_next (args_gen_next _) ?_)
  show RunsOn _ A.in1 (Builtin.Generator.genWake (.ref a) (.send .none)) _ _ s
  unfold Builtin.Generator.genWake
  refine on_bind (on_of (wpAny_holding (genNumberN hg hn ?_)))
  refine on_bind (on_of (wpAny_genState hgs ?_))
  have stop : ∀ {β : Type} (f : β → Sem PySem.Fin) (s' : Shared), s.heap.objs.size ≤ s'.heap.objs.size → s.gens.size ≤ s'.gens.size → xs = [] → R W Pn (s.setGen g .running) s' → RunsOn (model P w) A.in1 (newExc (.type "StopIteration") [] >>= fun e => (raiseNew e : Sem β) >>= f) (fun fin s' => ∃ v, fin = .done (.ret v) ∧ Q (some v) s') E (s'.setGen g .finished) := fun f s' hs hz ex hR => by
    refine on_of (wpAny_bind ?_)
    simp only [newExc, newTuple]
    refine wpAny_bind (wpAny_newObj_type ?_ (by size_fits))
    refine wpAny_bind (m := firstArgMember _ _) (wpAny_of_eq (a := Value.none) (by first | rfl | (simp only [firstArgMember]; rfl)) ?_)
    refine wpAny_newObj_type ?_ (by size_fits)
    simp only [raiseNew]
    refine wpAny_bind (wpAny_bind (wpAny_handled ?_))
    first | rw [show A.in1.handled = none from hh] | rw [hh]
    refine wpAny_throw ?_
    refine hP ex s' hs hz hR _ _ ⟨_, _, _, rfl, Heap.get?_push_size _ rfl, rfl, rfl, ?_⟩ (fun b o e => Heap.get?_push_of_some _ (Heap.get?_push_of_some _ e)) (by simp only [Heap.size_push]; exact Nat.le_succ_of_le (Nat.le_succ _))
    first
      | rfl
      | (rw [Array.getElem?_append_left (by decide)]; rfl)
      | kernel_rfl
  cases gs with
  | running => exact hgo.elim
  | finished => exact hgo.elim
  | _ =>
    refine on_bind (on_of (wpAny_roomToWake hl hroom ?_))
    show RunsOn _ A.in1 (.resume g (.send .none) [] _) _ _ s
    refine on_resume hgs hlo hgo fun s' t' c' p' fs' hs hz hx => ?_
    cases xs with
    | nil =>
      obtain ⟨rfl, ht, hR⟩ := hx
      refine .inl ⟨rfl, ?_⟩
      rcases ht with rfl | rfl
      · exact ⟨.ok (.ret .none), rfl, stop _ s' hs hz rfl hR⟩
      · exact ⟨.ok .next, rfl, stop _ s' hs hz rfl hR⟩
    | cons x ys =>
      obtain ⟨b, gg, ll, kk, N, rfl, h1, h2, h3, h4, h4', hP', hI, h5, h6⟩ := hx
      refine .inr ⟨_, gg, ll, kk, rfl, h1, h2, h3, on_pure ⟨_, rfl, hY x ys rfl s' b N _ hz h4 h4' hP' hI h5 fun W' s'' k => h6 W' s'' k⟩⟩
/-- .. under next() -/
theorem on_pyNext {lo : Nat} {I : Addr → Prop} {R : GEnd} {xs : List (List V)} {W Pn : List Addr} {a : Addr} {g : Nat} {n : Int} {gs : GenState} {Q : Option Value → Shared → Prop} {E : Value → Shared → Prop} (hh : A.handled = none) (hl : s.heap.NoLimit) (hroom : A.depth < recursionLimit) (hg : GenN s.heap a g n) (hn : n ≤ 0)
    (hgs : s.gens[g]? = some gs) (hlo : g < lo) (hgo : Goes1 (model P w) A.in1 lo (Out (model P w) A.in1 lo I R xs W Pn (s.setGen g .running)) gs (s.setGen g .running))
    (hY : ∀ x ys, xs = x :: ys → ∀ s' b N gs', s.gens.size ≤ s'.gens.size → RowH x b s'.heap → b ∉ W → b ∉ Pn → I b → Seen W Pn lo N (s.setGen g .running) s' →
      (∀ W' s'', Woke W W' N s' s'' → Goes1 (model P w) A.in1 lo (Out (model P w) A.in1 lo I R ys W' (b :: Pn) s'') gs' s'') → Q (some (.ref b)) (s'.setGen g gs'))
    (hP : xs = [] → ∀ s', s.heap.objs.size ≤ s'.heap.objs.size → s.gens.size ≤ s'.gens.size → R W Pn (s.setGen g .running) s' → ∀ h', (∀ b o, s'.heap.get? b = some o → h'.get? b = some o) → s'.heap.objs.size ≤ h'.objs.size → Q none { s'.setGen g .finished with heap := h' }) :
    RunsOn (model P w) A (pyNext (.ref a)) Q E s := by
  unfold pyNext
  refine on_bind (on_attempt (on_genNext hh hl hroom hg hn hgs hlo hgo (fun x ys e s' b N gs' h1 h2 h3 h4 h5 h6 h7 => ?_) fun e s' h1 h2 h3 x h' hS h5 h6 => ?_))
  · exact on_pure (hY x ys e s' b N gs' h1 h2 h3 h4 h5 h6 h7)
  · obtain ⟨ea, o, vs, rfl, hoa, hcls, _⟩ := hS
    refine on_bind (on_of (wpAny_isInstance (T := "StopIteration") (b := true) ⟨o, hoa, hcls⟩ isSubtype_stop ?_))
    exact on_pure (hP e s' h1 h2 h3 h' h5 h6)
end
end K21
/-! ## S22 -/
set_option Elab.async false
set_option linter.all false
set_option maxRecDepth 100000
set_option maxHeartbeats 1000000
/-! Statements of a generator's body, in the wide logic. -/
namespace K21
open PySem PySem.Spec PyProof.Rows L2
open Sem (wp)
/-- a running body: the consumer's objects W, what was handed out Pn, its own iterators ip, since the wake s₀ -/
structure GIw (X : Cx) (lo : Nat) (W Pn : List Addr) (ip : List (Addr × Obj)) (s₀ : Shared) (σ : L2.St) (H : Hp) (s : Shared) : Prop where
  inv : Inv X ip σ H s
  w : ∀ b ∈ W, FpOk X ip H b ∧ ∃ o, s₀.heap.get? b = some o ∧ s.heap.get? b = some o ∧ ∀ v, o.data ≠ .cell v
  p : ∀ b ∈ Pn, b ∉ W ∧ H b = none ∧ b ≠ X.env.locals ∧ b ∉ X.fs ∧ (∀ q ∈ ip, q.1 ≠ b) ∧ ∃ o, s₀.heap.get? b = some o ∧ s.heap.get? b = some o ∧ ∀ v, o.data ≠ .cell v
  sz : s₀.heap.objs.size ≤ s.heap.objs.size
  os : s.os = s₀.os
  gsz : lo ≤ s.gens.size
  exW : ∀ b ∈ X.ex, b ∈ W
section
variable {X : Cx} {lo : Nat} {W Pn : List Addr} {ip : List (Addr × Obj)} {s₀ s s' : Shared} {σ σ' : L2.St} {H H' : Hp}
theorem GIw.pins (G : GIw X lo W Pn ip s₀ σ H s) : Inv X (ip ++ pinsAt (W ++ Pn) s₀.heap) σ H s := by
  refine G.inv.pins_of fun q hq => ?_
  rcases List.mem_append.mp hq with z | z
  · exact G.inv.pin q (List.mem_append_right _ z)
  · obtain ⟨hb, e⟩ := of_pinsAt z
    rcases List.mem_append.mp hb with y | y
    · obtain ⟨⟨f1, f2, f3, _⟩, o, e1, e2, d⟩ := G.w _ y
      rw [e] at e1; cases e1
      exact ⟨e2, f1, f2, f3, d⟩
    · obtain ⟨_, f1, f2, f3, _, o, e1, e2, d⟩ := G.p _ y
      rw [e] at e1; cases e1
      exact ⟨e2, f1, f2, f3, d⟩
theorem GIw.back (G : GIw X lo W Pn ip s₀ σ H s) (I : Inv X (ip ++ pinsAt (W ++ Pn) s₀.heap) σ' H' s') (hz : s.heap.objs.size ≤ s'.heap.objs.size) (hg : s.gens.size ≤ s'.gens.size) : GIw X lo W Pn ip s₀ σ' H' s' := by
  have at_ : ∀ b, b ∈ W ++ Pn → ∀ o, s₀.heap.get? b = some o → s'.heap.get? b = some o ∧ H' b = none := fun b hb o e =>
    have z := I.pin (b, o) (List.mem_append_right _ (List.mem_append_right _ (mem_pinsAt hb e)))
    ⟨z.1, z.2.1⟩
  refine ⟨I.unpinned, fun b hb => ?_, fun b hb => ?_, Nat.le_trans G.sz hz, ?_, Nat.le_trans G.gsz hg, G.exW⟩
  · obtain ⟨⟨_, f⟩, o, e1, _, d⟩ := G.w b hb
    obtain ⟨y1, y2⟩ := at_ b (List.mem_append_left _ hb) o e1
    exact ⟨⟨y2, f⟩, o, e1, y1, d⟩
  · obtain ⟨f0, _, f2, f3, f4, o, e1, _, d⟩ := G.p b hb
    obtain ⟨y1, y2⟩ := at_ b (List.mem_append_right _ hb) o e1
    exact ⟨f0, y2, f2, f3, f4, o, e1, y1, d⟩
  · rw [I.os, ← G.inv.os, G.os]
end
/-- none of what stood at the body's call -/
abbrev nw (X : Cx) : Addr → Prop := fun b => X.s_0.heap.get? b = none
/-- where the body's code stands -/
structure WC (X : Cx) (A : Around) (c : Code) (fs : List Frame) (gd : Bool → Bool) : Prop where
  over : A.over c fs = X.A
  split : splitAtGen fs = none
  guard : fs.any Frame.guarded = false
  gd : gd false = false
abbrev TW := (List (List V) → L2.St → Hp → Prop) → List (List V) → L2.St → Hp → Prop
/-- what follows -/
abbrev WK (X : Cx) (lo : Nat) (ip : List (Addr × Obj)) (A : Around) (R : GEnd) (c : Code) (t : Sem PySem.Fin) (fs : List Frame) (D : List (List V) → L2.St → Hp → Prop) : Prop :=
  ∀ xs W Pn s₀ s σ H, GIw X lo W Pn ip s₀ σ H s → D xs σ H → Will (model X.prog X.w) A lo (nw X) R xs W Pn s₀ c t fs s
structure WGS (X : Cx) (st : Stmt) (t : TW) : Prop where
  run : ∀ (lo : Nat) (A : Around) (R : GEnd) (ip : List (Addr × Obj)) (c : Code) (fs : List Frame) (K : Flow → Sem PySem.Fin) (J : Value → Sem PySem.Fin) (gd : Bool → Bool) (lv : List Value → List Value) (xs : List (List V)) (W Pn : List Addr) (s₀ s : Shared) (σ : L2.St) (H : Hp) (D : List (List V) → L2.St → Hp → Prop),
    WC X A c fs gd → WK X lo ip A R c (K .next) fs D → GIw X lo W Pn ip s₀ σ H s → t D xs σ H → Will (model X.prog X.w) A lo (nw X) R xs W Pn s₀ c ((exec st X.env).wrap K J gd lv) fs s
structure WGSs (X : Cx) (st : List Stmt) (t : TW) : Prop where
  run : ∀ (lo : Nat) (A : Around) (R : GEnd) (ip : List (Addr × Obj)) (c : Code) (fs : List Frame) (K : Flow → Sem PySem.Fin) (J : Value → Sem PySem.Fin) (gd : Bool → Bool) (lv : List Value → List Value) (xs : List (List V)) (W Pn : List Addr) (s₀ s : Shared) (σ : L2.St) (H : Hp) (D : List (List V) → L2.St → Hp → Prop),
    WC X A c fs gd → WK X lo ip A R c (K .next) fs D → GIw X lo W Pn ip s₀ σ H s → t D xs σ H → Will (model X.prog X.w) A lo (nw X) R xs W Pn s₀ c ((execs st X.env).wrap K J gd lv) fs s
section
variable {M : Model} {A : Around} {lo : Nat} {Z : At} {c : Code} {fs : List Frame} {s : Shared} {α β : Type}
theorem till_bw {m : Sem α} {f : α → Sem β} {K : β → Sem PySem.Fin} {J : Value → Sem PySem.Fin} {gd : Bool → Bool} {lv : List Value → List Value} (h : RunsOn M (A.over c fs) m (fun a s' => Till M A lo Z c ((f a).wrap K J gd lv) fs s') NoE s) : Till M A lo Z c ((m >>= f).wrap K J gd lv) fs s := by
  rw [Sem.bind_eq_wrap', Sem.wrap_wrap]
  exact till_wrap (on_mono h (fun _ _ q => q) fun _ _ q => q.elim)
theorem on_standAt {p : Pos} {Q : Unit → Shared → Prop} {E : Value → Shared → Prop} (h : Q () s) : RunsOn M A (standAt p) Q E s := on_of (wpAny_standAt h)
end
section
variable {X : Cx} {e : Expr} {st : Stmt} {rest b1 b2 : List Stmt} {t u : TW} {te : TE} {tc : TT} {ts : TS} {pos yp : Pos}
def tWPlain (ts : TS) : TW := fun D xs σ H => ts { nx := fun σ' H' => D xs σ' H', rt := fun _ _ => False } σ H
theorem wgs_plain (hx : NoX X) (h : PS X st ts) : WGS X st (tWPlain ts) := by
  refine ⟨fun lo A R ip c fs K J gd lv xs W Pn s₀ s σ H D g k G ht => ?_⟩
  refine till_wrap ?_
  rw [g.over]
  refine on_mono (on_grown (on_calm hx (h.run _ s σ H _ G.pins ht))) (fun f s' ⟨hz, hg, hs⟩ => ?_) fun _ _ q => q.2.2.elim
  cases f with
  | next => obtain ⟨σ', H', I', q⟩ := hs; exact k _ _ _ _ _ _ _ (G.back I' hz hg) q
  | brk => obtain ⟨_, _, _, q⟩ := hs; exact q.elim
  | cont => obtain ⟨_, _, _, q⟩ := hs; exact q.elim
  | ret v => obtain ⟨_, _, _, _, _, q⟩ := hs; exact q.elim
def tWNil : TW := fun D xs σ H => D xs σ H
theorem wgss_nil : WGSs X [] tWNil := ⟨fun lo A R ip c fs K J gd lv xs W Pn s₀ s σ H D g k G ht => k _ _ _ _ _ _ _ G ht⟩
def tWThen (t u : TW) : TW := fun D xs σ H => t (u D) xs σ H
theorem wgss_cons (a : WGS X st t) (b : WGSs X rest u) : WGSs X (st :: rest) (tWThen t u) := by
  refine ⟨fun lo A R ip c fs K J gd lv xs W Pn s₀ s σ H D g k G ht => ?_⟩
  rw [execs_cons_wrap]
  exact a.run lo A R ip c fs _ J gd lv xs W Pn s₀ s σ H (u D) g (fun ys W' P' s1 s2 σ' H' G' q => b.run lo A R ip c fs K J gd lv ys W' P' s1 s2 σ' H' D g k G' q) G ht
theorem wgss_one (a : WGS X st t) : WGSs X [st] t := by
  refine ⟨fun lo A R ip c fs K J gd lv xs W Pn s₀ s σ H D g k G ht => ?_⟩
  rw [execs_cons_wrap]
  exact a.run lo A R ip c fs _ J gd lv xs W Pn s₀ s σ H D g (fun ys W' P' s1 s2 σ' H' G' q => k _ _ _ _ _ _ _ G' q) G ht
def tWIf (tc : TT) (t u : TW) : TW := fun D xs σ H => tc σ H fun b H1 => if b = true then t D xs σ H1 else u D xs σ H1
theorem wgs_if (hx : NoX X) (hc : PT X e tc) (ha : WGSs X b1 t) (hb : WGSs X b2 u) : WGS X (.If e b1 b2 pos) (tWIf tc t u) := by
  refine ⟨fun lo A R ip c fs K J gd lv xs W Pn s₀ s σ H D g k G ht => ?_⟩
  rw [exec_If]
  refine till_bw (on_standAt ?_)
  refine till_bw ?_
  rw [g.over]
  refine on_mono (on_grown (on_calm hx (hc.run _ s σ H _ G.pins ht))) (fun b s' ⟨hz, hg, H1, I1, q⟩ => ?_) fun _ _ q => q.2.2.elim
  cases b with
  | true => exact ha.run lo A R ip c fs K J gd lv xs W Pn s₀ s' σ H1 D g k (G.back I1 hz hg) q
  | false => exact hb.run lo A R ip c fs K J gd lv xs W Pn s₀ s' σ H1 D g k (G.back I1 hz hg) q
/-- what was handed out is its own no more -/
theorem inv_give {pins : List (Addr × Obj)} {σ : L2.St} {H : Hp} {s : Shared} {p : Addr} {x : List V} (I : Inv X pins σ H s) (h : H p = some (.lst x)) : Inv X pins σ (del H p) s := by
  have ne : ∀ {b o}, H b = some o → (∀ y, o ≠ .lst y) → b ≠ p := fun {b o} e n z => by
    rw [z, h] at e; cases e; exact n _ rfl
  have dn : ∀ b, H b = none → del H p b = none := fun b n => by
    unfold del; split
    · rfl
    · exact n
  refine ⟨I.ok, I.os, I.bare, ⟨I.base.keep, I.base.slot, fun b o e n hx => dn _ (I.base.free b o e n hx), I.base.there, fun b ys e => ?_, fun b o u e => ?_, fun b ps e => ?_⟩, I.loc, I.cell, dn _ I.free, fun y c e => dn _ (I.freeC y c e), fun q hq => ?_, fun b u e => ?_, I.len⟩
  · have e1 := I.base.tups b ys e
    rw [del_ne (ne e1 fun y z => by cases z)]; exact e1
  · have e1 := I.base.frzs b o u e
    rw [del_ne (ne e1 fun y z => by cases z)]; exact e1
  · obtain ⟨m, e1⟩ := I.base.tbls b ps e
    exact ⟨m, by rw [del_ne (ne e1 fun y z => by cases z)]; exact e1⟩
  · obtain ⟨a1, a2, a3⟩ := I.pin q hq
    exact ⟨a1, dn _ a2, a3⟩
  · by_cases z : b = p
    · subst z
      unfold del at e; rw [if_pos rfl] at e; cases e
    · rw [del_ne z] at e
      exact (I.hok b u e).stay (fun _ _ _ q => q) (fun d q => by rw [del_ne (ne q fun y z => by cases z)]; exact q) fun d ys q => by rw [del_ne (ne q fun y z => by cases z)]; exact q
/-- yield e: the list is handed out -/
def tWYield (H0 : Hp) (te : TE) : TW := fun D xs σ H => te σ H fun v H1 => ∃ p x ys, v = .ref p ∧ H0 p = none ∧ H1 p = some (.lst x) ∧ xs = x :: ys ∧ D ys σ (del H1 p)
theorem wgs_yield (hx : NoX X) (he : PE X e te) (hco : X.env.scope.isCoroutine = false := by rfl) (hi : interactive X.env = false := by rfl) : WGS X (.Expr (.Yield (some e) yp) pos) (tWYield X.H_0 te) := by
  refine ⟨fun lo A R ip c fs K J gd lv xs W Pn s₀ s σ H D g k G ht => ?_⟩
  rw [exec_Expr X.env _ pos hi rfl]
  have hy : ∀ v, yieldOut X.env v = yieldValue v := fun v => by simp only [yieldOut, hco, Bool.false_eq_true, if_false]
  show Till _ A lo _ c (.at pos fun _ => ((eval e X.env >>= fun v => (standAt yp >>= fun _ => yieldOut X.env v)) >>= fun x => dropValue (.Yield (some e) yp) pos x).wrap K J gd lv) fs s
  simp only [hy]
  refine till_at ?_
  rw [Sem.bind_eq_wrap', Sem.bind_eq_wrap', Sem.wrap_wrap, Sem.wrap_wrap]
  refine till_wrap ?_
  rw [g.over]
  refine on_mono (on_grown (on_calm hx (he.run _ s σ H _ G.pins ht))) (fun v s1 ⟨hz, hg, y, H1, I1, rv, q⟩ => ?_) fun _ _ q => q.2.2.elim
  obtain ⟨p, x, ys, rfl, h0p, hp, rfl, hD⟩ := q
  obtain rfl : v = Value.ref p := rv
  have G1 := G.back I1 hz hg
  refine till_at ?_
  obtain ⟨hlen, its, n, rits, hat⟩ := G1.inv.hok p _ hp
  have npW : p ∉ W := fun z => by
    have := (G1.w p z).1.1
    rw [hp] at this; cases this
  have npP : p ∉ Pn := fun z => by
    have := (G1.p p z).2.1
    rw [hp] at this; cases this
  have nwp : X.s_0.heap.get? p = none := by
    cases e : X.s_0.heap.get? p with
    | none => rfl
    | some o =>
      by_cases hx' : p ∈ X.ex
      · exact absurd (G1.exW p hx') npW
      · have := G1.inv.base.free p o e h0p hx'
        rw [hp] at this; cases this
  refine till_here fun pp => ⟨p, gd false, _, _, [], rfl, g.split, g.guard, (fun z => by rw [g.gd] at z; cases z), ⟨hlen, its.toArray, n, hat, by simpa using rits⟩, npW, npP, nwp, ⟨G1.os, fun b hb o e => ?_, G1.sz, fun i z e _ => G1.inv.bare z (Array.mem_of_getElem? e), fun i hi => (by simp at hi), G1.inv.nolimit⟩, fun W' s2 wk => ?_⟩
  · rcases hb with hb | hb
    · obtain ⟨_, o', e1, e2, _⟩ := G1.w b hb
      rw [e] at e1; cases e1; exact e2
    · obtain ⟨_, _, _, _, _, o', e1, e2, _⟩ := G1.p b hb
      rw [e] at e1; cases e1; exact e2
  · have bare2 : AllBare s2.gens := fun z hz2 => by
      obtain ⟨i, hi, e⟩ := Array.mem_iff_getElem.mp hz2
      exact wk.gens i z (by rw [Array.getElem?_eq_getElem hi, e]) (by simp)
    have I2 := inv_give G1.inv hp
    have dn : ∀ b, H1 b = none → del H1 p b = none := fun b n => by
      unfold del; split
      · rfl
      · exact n
    have old : ∀ b ∈ W', FpOk X ip (del H1 p) b := fun b hb => by
      rcases wk.new b hb with z | z
      · obtain ⟨⟨f1, f⟩, _⟩ := G1.w b z
        exact ⟨dn b f1, f⟩
      · exact G1.inv.fpOk z (I2.hok.fresh z)
    have nW : ∀ b, (∃ o, s1.heap.get? b = some o) → b ∉ W → b ∉ W' := fun b ⟨o, e⟩ n z => by
      rcases wk.new b z with y | y
      · exact n y
      · exact absurd (Nat.lt_of_lt_of_le (Heap.lt_size e) y) (Nat.lt_irrefl _)
    have I3 : Inv X ip σ (del H1 p) s2 := by
      have nt : ∀ b u, del H1 p b = some u → b ∉ W' := fun b u e z => by
        have := (old b z).1
        rw [this] at e; cases e
      obtain ⟨hh, g', d', t', o'⟩ := s2
      obtain rfl : o' = s1.os := wk.os
      refine I2.step (g' := g') (t' := t') (d' := d') (ch := W') (fun b hb => ⟨(old b hb).2.2.2.1, (old b hb).2.1, (old b hb).2.2.2.2.1, (old b hb).2.2.2.2.2⟩)
        (fun b ob _ _ hc q _ => wk.keep b ob hc q) (fun b ob _ _ hc q _ => ⟨ob.slots, wk.keep b ob hc q⟩) (fun _ _ _ _ n => n) (fun b ob hc q => ⟨ob, wk.keep b ob hc q⟩)
        (fun _ _ q => q) (fun _ _ _ q => q) (fun b ps q => ⟨#[], by rw [q]; simp⟩) (fun m hm => ?_) (fun b u q => ?_) bare2
      · obtain ⟨ob, es, ep, ho, r⟩ := hm
        exact ⟨ob, es, ep, wk.keep _ ob (fun z => (old _ z).2.1 rfl) ho, r⟩
      · refine (I2.hok b u q).stay (fun c v hc y => wk.keep c v ?_ y) (fun _ y => y) fun _ _ y => y
        rcases hc with y | y
        · rw [y]; exact nt b u q
        · exact nt c _ y
    have hsl : ∀ b ∈ X.fs, H1 b = none := fun b hb => by
      obtain ⟨_, o, ho, _⟩ := G1.inv.ok.funs.mem hb
      exact G1.inv.base.free b o ho (G1.inv.ok.frf b hb) fun z => G1.inv.ok.exfs b z hb
    refine k ys W' (p :: Pn) s2 s2 σ (del H1 p) ⟨I3, fun b hb => ?_, fun b hb => ?_, Nat.le_refl _, rfl, Nat.le_trans G1.gsz wk.gsz, fun b hb => wk.sub b (G1.exW b hb)⟩ hD
    · obtain ⟨o, e, d⟩ := wk.there b hb
      exact ⟨old b hb, o, e, e, d⟩
    · rcases List.mem_cons.mp hb with rfl | hb
      · have nb := nW b ⟨_, hat⟩ npW
        have e2 := wk.keep b _ nb hat
        refine ⟨nb, (by unfold del; rw [if_pos rfl]), fun z => ?_, fun z => ?_, fun q hq z => ?_, _, e2, e2, fun v q => by cases q⟩
        · have := G1.inv.free
          rw [← z, hp] at this; cases this
        · have := hsl b z
          rw [hp] at this; cases this
        · have := (G1.inv.pin q (List.mem_append_right _ hq)).2.1
          rw [z, hp] at this; cases this
      · obtain ⟨f0, f1, f2, f3, f4, o, _, e2, d⟩ := G1.p b hb
        have nb := nW b ⟨o, e2⟩ f0
        have e3 := wk.keep b o nb e2
        exact ⟨nb, dn b f1, f2, f3, f4, o, e3, e3, d⟩
end
end K21
/-! ## S23 -/
set_option Elab.async false
set_option linter.all false
set_option maxRecDepth 100000
set_option maxHeartbeats 1000000
/-! for in a generator's body. -/
namespace K21
open PySem PySem.Spec PyProof.Rows L2
open Sem (wp)
theorem wc_loop {X : Cx} {A : Around} {c c' : Code} {fs : List Frame} {gd : Bool → Bool} {k : Result → Sem PySem.Fin} {l kp : List Value} {p : Pos} (g : WC X A c fs gd) (hw : c'.weight = 0) (hu : c'.cUnits = 0) : WC X A c' (.ret k none (gd false) l c p kp :: fs) id := by
  refine ⟨(GenW.over_loop hw hu).trans g.over, ?_, ?_, rfl⟩
  · show (splitAtGen fs).map _ = none
    rw [g.split]; rfl
  · show (gd false || fs.any Frame.guarded) = false
    rw [g.gd, g.guard]; rfl
section
variable {X : Cx} {tg iter : Expr} {body : List Stmt} {wi : TI} {g : TG} {tb : TW} {pos : Pos}
def tWFor (wi : TI) (g : TG) (tb : TW) : TW := fun D xs σ H => wi σ H fun J H1 => ∃ V0 : Nat → Nat → List (List V) → L2.St → Hp → Prop, (∃ m, V0 0 m xs σ H1) ∧ ∀ i m xs σ H, V0 i m xs σ H →
  (J.stop i H ∧ D xs σ H) ∨ (J.go i H ∧ ∃ N : List (List V) → L2.St → Hp → Prop, (∀ ys σ' H', N ys σ' H' → ∃ m', m' < m ∧ V0 (i + 1) m' ys σ' H') ∧ ∀ x H', J.yld i H x H' → g x σ H' fun σ2 H2 => tb N xs σ2 H2)
theorem wgs_for (hx : NoX X) (hc : X.calm = true) (hi : PI X tg iter wi) (hg : PG X tg g) (hb : WGSs X body tb) (hs : ∀ x, foldedSetIterable iter X.env x = pure x := by intro _; rfl) : WGS X (.For tg iter body [] pos) (tWFor wi g tb) := by
  refine ⟨fun lo A R ip c fs K J gd lv xs W Pn s₀ s σ H D w0 k G ht => ?_⟩
  rw [exec_For]
  refine till_bw (on_standAt ?_)
  refine till_bw ?_
  rw [w0.over]
  refine on_mono (on_grown (on_calm hx (hi.run _ s σ H _ G.pins ht))) (fun v s1 ⟨z1, y1, h1⟩ => ?_) fun _ _ q => q.2.2.elim
  rw [hs v]
  refine till_bw (on_pure ?_)
  refine till_bw (on_standAt ?_)
  refine till_bw (on_hold ?_)
  rw [w0.over]
  refine on_mono (on_grown (on_calm hx h1)) (fun itv s2 ⟨z2, y2, h2⟩ => ?_) fun _ _ q => q.2.2.elim
  obtain ⟨it, fp, tn, Ji, H2, e, I2, T, st2, f2, V0, ⟨m0, v0⟩, turn⟩ := h2
  subst e
  have G2 := G.back I2 (Nat.le_trans z1 z2) (Nat.le_trans y1 y2)
  have apart0 : ∀ {b : Addr} {W Pn : List Addr} {h : Heap}, (∀ c ∈ W ++ Pn, ∃ o, h.get? c = some o) → (∀ p ∈ X.pn ++ (ip ++ pinsAt (W ++ Pn) h), p.1 ≠ b) → b ∉ W ∧ b ∉ Pn := fun {b W Pn h} hex q => by
    have one : b ∉ W ++ Pn := fun z => by
      obtain ⟨o, e⟩ := hex b z
      exact q (b, o) (List.mem_append_right _ (List.mem_append_right _ (mem_pinsAt z e))) rfl
    exact ⟨fun z => one (List.mem_append_left _ z), fun z => one (List.mem_append_right _ z)⟩
  have hex2 : ∀ c ∈ W ++ Pn, ∃ o, s₀.heap.get? c = some o := fun c hc => by
    rcases List.mem_append.mp hc with z | z
    · obtain ⟨_, o, e, _⟩ := G2.w c z; exact ⟨o, e⟩
    · obtain ⟨_, _, _, _, _, o, e, _⟩ := G2.p c z; exact ⟨o, e⟩
  show Till _ A lo _ c (.call (.forLoop tg (.ref it) body [] X.env) none (gd false) (lv []) fun r => ((match r with | .ok f => (.pure f : Sem Flow) | .error e => .raise e).onRaise (fun x => do
    if (← field x 1) == Value.none then unsupported "frame.own-activation:exception-without-traceback"
    setFlight x X.env.frame)).wrap K J gd lv) fs s2
  refine till_call fun p => ?_
  have stat : ∀ b ∈ fp, b ≠ X.env.locals ∧ b ∉ X.fs ∧ (b ∈ X.ex ∨ X.s_0.heap.objs.size ≤ b) ∧ (∀ x c, X.env.cells.lookup x = some c → c ≠ b) ∧ ∀ p ∈ X.pn ++ ip, p.1 ≠ b := fun b hb => by
    obtain ⟨_, q1, q2, q3, q4, q5⟩ := f2 b hb
    exact ⟨q1, q2, q3, q4, fun p hp => q5 p ((List.mem_append.mp hp).elim (fun z => List.mem_append_left _ z) fun z => List.mem_append_right _ (List.mem_append_left _ z))⟩
  have loop : ∀ (m i : Nat) (xs : List (List V)) (W Pn : List Addr) (s₀ s : Shared) (σ : L2.St) (H : Hp), GIw X lo W Pn ip s₀ σ H s → tn i s.heap → (∀ b ∈ fp, H b = none ∧ b ∉ W ∧ b ∉ Pn) → V0 i m xs σ H →
      Till (model X.prog X.w) A lo (Out (model X.prog X.w) A lo (nw X) R xs W Pn s₀) (.forLoop tg (.ref it) body [] X.env) ((model X.prog X.w).den (.forLoop tg (.ref it) body [] X.env))
        (.ret (fun r => ((match r with | .ok f => (.pure f : Sem Flow) | .error e => .raise e).onRaise (fun x => do
          if (← field x 1) == Value.none then unsupported "frame.own-activation:exception-without-traceback"
          setFlight x X.env.frame)).wrap K J gd lv) none (gd false) (lv []) c p [] :: fs) s := by
    intro m
    induction m using Nat.strongRecOn with
    | ind m ih =>
      intro i xs W Pn s₀ s3 σ3 H3 G3 st3 fr3 v3
      have wl := fun (kk : Result → Sem PySem.Fin) => wc_loop (k := kk) (c' := .forLoop tg (.ref it) body [] X.env) (l := lv []) (kp := []) (p := p) w0 rfl rfl
      have fpo : ∀ {H' : Hp}, (∀ b ∈ fp, H' b = none) → ∀ b ∈ fp, FpOk X (ip ++ pinsAt (W ++ Pn) s₀.heap) H' b := fun hn b hb => by
        obtain ⟨q1, q2, q3, q4, q5⟩ := stat b hb
        refine ⟨hn b hb, q1, q2, q3, q4, fun q hq => ?_⟩
        rcases List.mem_append.mp hq with y | y
        · exact q5 q (List.mem_append_left _ y)
        · rcases List.mem_append.mp y with y | y
          · exact q5 q (List.mem_append_right _ y)
          · intro z
            have := (of_pinsAt y).1
            rw [z] at this
            rcases List.mem_append.mp this with u | u
            · exact (fr3 b hb).2.1 u
            · exact (fr3 b hb).2.2 u
      show Till _ A lo _ _ ((forTurn tg (.ref it) body [] X.env).onRaise (fun x => do noteFrame x X.env; theTreesLotGoes x)) _ s3
      rw [Sem.onRaise_eq_wrap]
      unfold forTurn
      refine till_bw (on_standAt ?_)
      refine till_bw (on_onRaise ?_)
      rw [(wl _).over]
      rcases turn i m xs σ3 H3 v3 with ⟨stop, qn⟩ | ⟨go, N, hN, step⟩
      · refine on_mono (on_grown (on_calm hx (T.done X rfl rfl rfl hc i _ s3 σ3 H3 X.xe G3.pins (fpo fun b hb => (fr3 b hb).1) st3 stop))) (fun r s4 ⟨z4, y4, hr, I4⟩ => ?_) fun _ _ q => q.2.2.elim
        subst hr
        refine till_again rfl ?_
        show Till _ A lo _ _ (execs [] X.env >>= fun f => _) _ s4
        refine till_bind (on_execs_nil ?_)
        exact till_leaf (.ok .next) (k xs W Pn s₀ s4 σ3 H3 (G3.back I4 z4 y4) qn)
      · refine on_mono (on_grown (on_calm hx (T.item X rfl rfl rfl hc i _ s3 σ3 H3 X.xe G3.pins (fpo fun b hb => (fr3 b hb).1) st3 go))) (fun r s4 ⟨z4, y4, u, hr, h4⟩ => ?_) fun _ _ q => q.2.2.elim
        subst hr
        refine till_bw ?_
        rw [(wl _).over]
        refine on_mono (on_grown (on_calm hx h4)) (fun _ s5 ⟨z5, y5, x, H5, I5, r5, yl, st5, fr5⟩ => ?_) fun _ _ q => q.2.2.elim
        refine till_bw ?_
        rw [(wl _).over]
        refine on_mono (on_grown (on_calm hx (hg.run _ s5 σ3 H5 x u _ (I5.pinned (fpo fr5) (T.obj _ _ st5)) r5 (step x H5 yl)))) (fun _ s6 ⟨z6, y6, σ6, H6, I6, q6⟩ => ?_) fun _ _ q => q.2.2.elim
        have G6 : GIw X lo W Pn (ip ++ pinsAt fp s5.heap) s₀ σ6 H6 s6 := by
          have G6' := G3.back (I6.unpinned) (Nat.le_trans (Nat.le_trans z4 z5) z6) (Nat.le_trans (Nat.le_trans y4 y5) y6)
          refine ⟨I6.pins_of fun q hq => ?_, fun b hb => ?_, fun b hb => ?_, G6'.sz, G6'.os, G6'.gsz, G6'.exW⟩
          · rcases List.mem_append.mp hq with y | y
            · exact I6.pin q (List.mem_append_right _ (List.mem_append_left _ (List.mem_append_left _ y)))
            · exact I6.pin q (List.mem_append_right _ (List.mem_append_right _ y))
          · obtain ⟨⟨f1, f2', f3, f4, f5, f6⟩, r⟩ := G6'.w b hb
            refine ⟨⟨f1, f2', f3, f4, f5, fun q hq => ?_⟩, r⟩
            rcases List.mem_append.mp hq with y | y
            · exact f6 q (List.mem_append_left _ y)
            · rcases List.mem_append.mp y with y | y
              · exact f6 q (List.mem_append_right _ y)
              · intro z
                exact (fr3 q.1 (of_pinsAt y).1).2.1 (by rw [z]; exact hb)
          · obtain ⟨f0, f1, f2', f3, f4, r⟩ := G6'.p b hb
            refine ⟨f0, f1, f2', f3, fun q hq => ?_, r⟩
            rcases List.mem_append.mp hq with y | y
            · exact f4 q y
            · intro z
              exact (fr3 q.1 (of_pinsAt y).1).2.2 (by rw [z]; exact hb)
        rw [Sem.bind_eq_wrap', Sem.wrap_wrap]
        refine hb.run lo A R (ip ++ pinsAt fp s5.heap) _ _ _ _ _ _ xs W Pn s₀ s6 σ6 H6 N ⟨(wl _).over, (wl _).split, (wl _).guard, rfl⟩ (fun ys W7 P7 s07 s7 σ7 H7 G7 n7 => ?_) G6 q6
        obtain ⟨m', hm, v7⟩ := hN ys σ7 H7 n7
        have at7 : ∀ b ∈ fp, ∀ o, s5.heap.get? b = some o → s7.heap.get? b = some o ∧ H7 b = none := fun b hb' o e =>
          have z := G7.inv.pin (b, o) (List.mem_append_right _ (List.mem_append_right _ (mem_pinsAt hb' e)))
          ⟨z.1, z.2.1⟩
        refine till_again rfl (ih m' hm (i + 1) ys W7 P7 s07 s7 σ7 H7 ⟨G7.inv.unpinned, fun b hb => ?_, fun b hb => ?_, G7.sz, G7.os, G7.gsz, G7.exW⟩ (T.keep _ _ _ st5 fun b hb' o e => (at7 b hb' o e).1) (fun b hb => ?_) v7)
        · obtain ⟨⟨f1, f2', f3, f4, f5, f6⟩, r⟩ := G7.w b hb
          exact ⟨⟨f1, f2', f3, f4, f5, fun q hq => f6 q ((List.mem_append.mp hq).elim (fun z => List.mem_append_left _ z) fun z => List.mem_append_right _ (List.mem_append_left _ z))⟩, r⟩
        · obtain ⟨f0, f1, f2', f3, f4, r⟩ := G7.p b hb
          exact ⟨f0, f1, f2', f3, fun q hq => f4 q (List.mem_append_left _ hq), r⟩
        · obtain ⟨o, e, _⟩ := T.obj _ _ st5 b hb
          refine ⟨(at7 b hb o e).2, fun z => ?_, fun z => ?_⟩
          · exact (G7.w b z).1.2.2.2.2.2 (b, o) (List.mem_append_right _ (List.mem_append_right _ (mem_pinsAt hb e))) rfl
          · exact (G7.p b z).2.2.2.2.1 (b, o) (List.mem_append_right _ (mem_pinsAt hb e)) rfl
  exact loop m0 0 xs W Pn s₀ s2 σ H2 G2 st2 (fun b hb => ⟨(f2 b hb).1, apart0 hex2 (f2 b hb).2.2.2.2.2⟩) v0
end
end K21
/-! ## S24 -/
set_option Elab.async false
set_option linter.all false
set_option maxRecDepth 100000
set_option maxHeartbeats 1000000
/-! yield from a generator. -/
namespace K21
open PySem PySem.Spec PyProof.Rows L2
open Sem (wp)
abbrev yfCode (a : Addr) : Code := .builtin "proto.yield_from" ⟨[.ref a, .bool false, .none], []⟩
theorem close_gen : ∃ v, typeLookup (.type "generator") "close" = pure (some v) := ⟨.builtin "generator.close", by rw [typeLookup_type, builtinLookup_eq_fast]; kernel_rfl⟩
theorem noLimit_but {h h' : Heap} {a : Addr} {g : Nat} {n : Int} (hg : GenN h a g n) (l : h.NoLimit) (k : ∀ c o, c ≠ a → h.get? c = some o → h'.get? c = some o) : h'.NoLimit := by
  obtain ⟨mc, hns, hnn⟩ := l
  have ne : cStatics ≠ a := fun z => by
    obtain ⟨o, _, _, ho, hc', hd', _⟩ := hg
    obtain ⟨ob, es, ep, hoc, hdc, _⟩ := hns
    rw [z, ho] at hoc; cases hoc
    rw [hd'] at hdc; cases hdc
  exact ⟨mc, hns.at' fun o e => k _ o ne e, hnn⟩
section
variable {X : Cx} {A : Around} {lo : Nat} {R RI : GEnd} {Io Ii : Addr → Prop} {P0 : List Addr} {h0 : Heap} {fs' : List Frame} {a : Addr} {g z : Nat} {W0 : List Addr} {O : OsState} {rest : List (List V)}
/-- the delegator between two items -/
structure Dg (z : Nat) (W0 P0 : List Addr) (h0 : Heap) (a : Addr) (g : Nat) (W Pn : List Addr) (s₀ s : Shared) : Prop where
  keep : ∀ b, b ∈ W ∨ b ∈ Pn → ∀ o, s₀.heap.get? b = some o → s.heap.get? b = some o
  nW : a ∉ W
  nP : a ∉ Pn
  os : s.os = s₀.os
  sz : s₀.heap.objs.size ≤ s.heap.objs.size
  hz : z ≤ s.heap.objs.size
  new : ∀ b ∈ W, b ∈ W0 ∨ z ≤ b
  newP : ∀ b ∈ Pn, b ∈ P0 ∨ h0.get? b = none
  thW : ∀ b ∈ W, ∃ o, s₀.heap.get? b = some o ∧ ∀ v, o.data ≠ .cell v
  thP : ∀ b ∈ Pn, ∃ o, s₀.heap.get? b = some o
  lim : s.heap.NoLimit
  sub : ∀ b ∈ W0, b ∈ W
  gl : g < s.gens.size
theorem till_yf (ho : (A.over (yfCode a) fs').handled = none) (hd : (A.over (yfCode a) fs').depth < recursionLimit) (hsp : splitAtGen fs' = none) (hgd : fs'.any Frame.guarded = false) (hlo : lo ≤ g) (hI : ∀ b, Ii b → Io b) (hI0 : ∀ b, Ii b → h0.get? b = none)
    (hend : ∀ W Pn s₀ s s1 h', Dg z W0 P0 h0 a g W Pn s₀ s → RI (a :: W) Pn (s.setGen g .running) s1 → s.heap.objs.size ≤ s1.heap.objs.size → s.gens.size ≤ s1.gens.size → (∀ b o, s1.heap.get? b = some o → h'.get? b = some o) → s1.heap.objs.size ≤ h'.objs.size → s₀.os = O →
      Will (model X.prog X.w) A lo Io R rest W Pn s₀ (yfCode a) (.pure (.done (.ret .none))) fs' { s1.setGen g .finished with heap := h' }) :
    ∀ (pre : List (List V)) (W Pn : List Addr) (s₀ s : Shared) (gs : GenState) (n : Int), GenN s.heap a g n → n ≤ 0 → s.gens[g]? = some gs →
      Goes1 (model X.prog X.w) (A.over (yfCode a) fs').in1 (g + 1) (Out (model X.prog X.w) (A.over (yfCode a) fs').in1 (g + 1) Ii RI pre (a :: W) Pn (s.setGen g .running)) gs (s.setGen g .running) → Dg z W0 P0 h0 a g W Pn s₀ s → s₀.os = O →
      Will (model X.prog X.w) A lo Io R (pre ++ rest) W Pn s₀ (yfCode a) ((model X.prog X.w).den (yfCode a)) fs' s := by
  obtain ⟨cl, hcl⟩ := close_gen
  intro pre
  induction pre with
  | nil =>
    intro W Pn s₀ s gs n hg hn hgs hgo D hO
    rw [den_yf]
    unfold Builtin.«proto.yield_from»
    try dsimp only
    refine till_bind (on_pure ?_)
    try dsimp only
    refine till_bind (on_attempt (on_hold ?_))
    rw [if_neg Bool.false_ne_true, if_pos (show (Value.none == Value.none) = true from rfl)]
    refine on_bind (on_of (wpAny_rule ?_))
    refine on_bind ?_
    refine on_genNext ho D.lim hd hg hn hgs (Nat.lt_succ_self g) hgo (fun x ys e => by cases e) fun _ s1 hz hgz hR e h' hS hk hhz => ?_
    obtain ⟨ea, o, vs, rfl, hoa, hcls, hdat, h5⟩ := hS
    try dsimp only
    refine till_bind (on_of (wpAny_endsTurn hoa hcls ?_))
    try dsimp only
    rw [if_pos rfl]
    first
      | refine till_bind (on_of (wpAny_rule ?_))
      | (rw [if_neg Bool.false_ne_true]; refine till_bind (on_of (wpAny_rule ?_)))
      | (rw [if_neg Bool.false_ne_true]; refine till_bind (on_pure ?_); refine till_bind (on_of (wpAny_rule ?_)))
    refine till_bind (on_of (wpAny_field hoa hdat h5 ?_))
    exact hend W Pn s₀ s s1 h' D hR hz hgz hk hhz hO
  | cons x ys ih =>
    intro W Pn s₀ s gs n hg hn hgs hgo D hO
    rw [den_yf]
    unfold Builtin.«proto.yield_from»
    try dsimp only
    refine till_bind (on_pure ?_)
    try dsimp only
    refine till_bind (on_attempt (on_hold ?_))
    rw [if_neg Bool.false_ne_true, if_pos (show (Value.none == Value.none) = true from rfl)]
    refine on_bind (on_of (wpAny_rule ?_))
    refine on_bind ?_
    refine on_genNext ho D.lim hd hg hn hgs (Nat.lt_succ_self g) hgo (fun x' ys' e s1 b N gs' hgz hrow hbW hbP hIb seen wakes => ?_) (fun e => by cases e)
    cases e
    have hgl : g < s1.gens.size := Nat.lt_of_lt_of_le (Array.getElem?_eq_some_iff.mp hgs).1 hgz
    have hg1 : GenN s1.heap a g n := hg.keeps fun o e => seen.keep a (.inl List.mem_cons_self) o e
    have nba : b ≠ a := fun z => hbW (by rw [z]; exact List.mem_cons_self)
    refine on_pure ?_
    try dsimp only
    refine till_bind (on_of (wpAny_typeOf (T := "generator") (GenN.ty (s := s1.setGen g gs') hg1) ?_))
    try dsimp only
    first
      | (refine till_bind (on_of (wpAny_of_eq hcl ?_)); refine till_bind (on_pure ?_))
      | refine till_bind (on_of (wpAny_bind (wpAny_of_eq hcl (wpAny_pure ?_))))
      | refine till_bind (on_of (wpAny_of_eq hcl ?_))
    try dsimp only
    refine till_bind (on_of (sleptOverN (s := s1.setGen g gs') hg1 fun h2 hg2 hk2 hz2 => ?_))
    have hg2' : GenN h2 a g (n + 1) := hg2
    have kWP : ∀ b, b ∈ W ∨ b ∈ Pn → ∀ o, s₀.heap.get? b = some o → h2.get? b = some o := fun b hb o e => by
      have nb : b ≠ a := by
        rcases hb with hb | hb
        · exact fun z => D.nW (by rw [← z]; exact hb)
        · exact fun z => D.nP (by rw [← z]; exact hb)
      refine hk2 b o nb (seen.keep b ?_ o (D.keep b hb o e))
      rcases hb with hb | hb
      · exact .inl (List.mem_cons_of_mem _ hb)
      · exact .inr hb
    have hsz2 : s1.heap.objs.size = h2.objs.size := hz2.symm
    have hsz1 : s.heap.objs.size ≤ s1.heap.objs.size := seen.sz
    show Till _ A lo _ _ (.yield (.ref b) true [] _) fs' _
    refine till_here fun pp => ⟨b, true, [], _, g :: N, rfl, hsp, hgd, fun _ => ?_, ?_, fun z => hbW (List.mem_cons_of_mem _ z), hbP, hI b hIb, ⟨?_, kWP, ?_, fun i y e hi => ?_, fun i hi => ?_, ?_⟩, fun W' s2 wk => ?_⟩
    · obtain ⟨o, e1, e2, _⟩ := hg2'.num
      exact ⟨a, _, _, o, rfl, e1, e2⟩
    · obtain ⟨hl, acc, c, e, r⟩ := hrow
      exact ⟨hl, acc, c, hk2 b _ nba e, r⟩
    · show s1.os = s₀.os
      rw [seen.os]; exact D.os
    · show s₀.heap.objs.size ≤ h2.objs.size
      rw [← hsz2]; exact Nat.le_trans D.sz hsz1
    · have e' : (s1.setGen g gs').gens[i]? = some y := e
      have ne : i ≠ g := fun z => hi (by rw [z]; exact List.mem_cons_self)
      have e2 : s1.gens[i]? = some y := by
        rw [← e']
        show _ = (s1.gens.setIfInBounds g gs')[i]?
        rw [Array.getElem?_setIfInBounds_ne (Ne.symm ne)]
      exact seen.gens i y e2 fun z => hi (List.mem_cons_of_mem _ z)
    · rcases List.mem_cons.mp hi with rfl | hi
      · exact hlo
      · exact Nat.le_trans (Nat.le_succ_of_le hlo) (seen.own i hi)
    · exact noLimit_but hg1 seen.lim hk2
    · have naW' : a ∉ W' := fun z => by
        rcases wk.new a z with y | y
        · exact D.nW y
        · have q : h2.objs.size ≤ a := y
          exact absurd (Nat.lt_of_lt_of_le hg2'.lt q) (Nat.lt_irrefl _)
      have hg3 : GenN s2.heap a g (n + 1) := hg2'.keeps fun o e => wk.keep a o naW' e
      have nbW' : b ∉ W' := fun z => by
        rcases wk.new b z with y | y
        · exact hbW (List.mem_cons_of_mem _ y)
        · have q : h2.objs.size ≤ b := y
          obtain ⟨_, acc, c, e, _⟩ := hrow
          exact absurd (Nat.lt_of_lt_of_le (Heap.lt_size e) (Nat.le_trans (Nat.le_of_eq hsz2) q)) (Nat.lt_irrefl _)
      have hgs2 : s2.gens[g]? = some gs' := by
        rw [wk.same g List.mem_cons_self]
        show (s1.gens.setIfInBounds g gs')[g]? = some gs'
        simp [hgl]
      show Till _ A lo _ _ (Builtin.Generator.sleptOver (.ref a) false >>= fun _ => _) fs' s2
      refine till_bind (on_of (sleptOverN hg3 fun h3 hg4 hk3 hz3 => ?_))
      try dsimp only
      refine till_bind (on_pure ?_)
      have hg4' : GenN h3 a g n := by
        have e : (n + 1 - 1 : Int) = n := by omega
        have q : GenN h3 a g (n + 1 - 1) := hg4
        rw [e] at q; exact q
      have nPW' : ∀ b ∈ Pn, b ∉ W' ∨ b ∈ W := fun b hb => by
        by_cases z : b ∈ W'
        · rcases wk.new b z with y | y
          · exact .inr y
          · obtain ⟨o, e⟩ := D.thP b hb
            have q : h2.objs.size ≤ b := y
            exact absurd (Nat.lt_of_lt_of_le (Heap.lt_size (kWP b (.inr hb) o e)) q) (Nat.lt_irrefl _)
        · exact .inl z
      refine till_again (plainId_quiet plain_yf _) (ih W' (b :: Pn) s2 { s2 with heap := h3 } gs' n hg4' hn hgs2 (wakes (a :: W') _ ⟨?_, fun i y e hi => ?_, fun i hi => ?_, fun c hc => ?_, fun c hc => ?_, fun c o hc e => ?_, fun c hc => ?_, ?_, ?_, noLimit_but hg3 wk.lim hk3⟩) ⟨fun c hc o e => ?_, naW', fun z => ?_, rfl, Nat.le_of_eq hz3.symm, ?_, fun c hc => ?_, fun c hc => ?_, fun c hc => wk.there c hc, fun c hc => ?_, ?_, ?_, ?_⟩ ?_)
      · show s2.os = s1.os
        exact wk.os
      · have e' : (s2.gens.setIfInBounds g .running)[i]? = some y := e
        by_cases ne : i = g
        · subst ne
          have hl2 : i < s2.gens.size := (Array.getElem?_eq_some_iff.mp hgs2).1
          rw [Array.getElem?_setIfInBounds_self_of_lt hl2] at e'
          cases e'; rfl
        · rw [Array.getElem?_setIfInBounds_ne (Ne.symm ne)] at e'
          exact wk.gens i y e' fun z => (List.mem_cons.mp z).elim ne hi
      · have ne : i ≠ g := fun z => by
          have := seen.own i hi
          omega
        show (s2.gens.setIfInBounds g .running)[i]? = s1.gens[i]?
        rw [Array.getElem?_setIfInBounds_ne (Ne.symm ne), wk.same i (List.mem_cons_of_mem _ hi)]
        show (s1.gens.setIfInBounds g gs')[i]? = s1.gens[i]?
        rw [Array.getElem?_setIfInBounds_ne (Ne.symm ne)]
      · rcases List.mem_cons.mp hc with rfl | hc
        · exact List.mem_cons_self
        · exact List.mem_cons_of_mem _ (wk.sub c hc)
      · rcases List.mem_cons.mp hc with rfl | hc
        · exact .inl List.mem_cons_self
        · rcases wk.new c hc with y | y
          · exact .inl (List.mem_cons_of_mem _ y)
          · have q : h2.objs.size ≤ c := y
            exact .inr (by omega)
      · have n1 : c ≠ a := fun z => hc (by rw [z]; exact List.mem_cons_self)
        have n2 : c ∉ W' := fun z => hc (List.mem_cons_of_mem _ z)
        exact hk3 c o n1 (wk.keep c o n2 (hk2 c o n1 e))
      · rcases List.mem_cons.mp hc with rfl | hc
        · obtain ⟨o, e1, _, d⟩ := hg4'.num
          exact ⟨o, e1, d⟩
        · obtain ⟨o, e1, d⟩ := wk.there c hc
          exact ⟨o, hk3 c o (fun z => naW' (by rw [← z]; exact hc)) e1, d⟩
      · show s1.heap.objs.size ≤ h3.objs.size
        have q : h2.objs.size ≤ s2.heap.objs.size := wk.sz
        omega
      · show s1.gens.size ≤ (s2.gens.setIfInBounds g .running).size
        have q : (s1.gens.setIfInBounds g gs').size ≤ s2.gens.size := wk.gsz
        simpa using q
      · refine hk3 c o ?_ e
        rcases hc with hc | hc
        · exact fun z => naW' (by rw [← z]; exact hc)
        · rcases List.mem_cons.mp hc with rfl | hc
          · exact nba
          · exact fun z => D.nP (by rw [← z]; exact hc)
      · rcases List.mem_cons.mp z with z | z
        · exact nba z.symm
        · exact D.nP z
      · show z ≤ h3.objs.size
        have q : h2.objs.size ≤ s2.heap.objs.size := wk.sz
        have := D.hz
        omega
      · rcases wk.new c hc with y | y
        · exact D.new c y
        · have q : h2.objs.size ≤ c := y
          have := D.hz
          exact .inr (by omega)
      · rcases List.mem_cons.mp hc with rfl | hc
        · exact .inr (hI0 c hIb)
        · exact D.newP c hc
      · rcases List.mem_cons.mp hc with rfl | hc
        · obtain ⟨_, acc, cc, e, _⟩ := hrow
          exact ⟨_, wk.keep c _ nbW' (hk2 c _ nba e)⟩
        · rcases nPW' c hc with y | y
          · obtain ⟨o, e⟩ := D.thP c hc
            exact ⟨o, wk.keep c o y (kWP c (.inr hc) o e)⟩
          · obtain ⟨o, e, _⟩ := wk.there c (wk.sub c y)
            exact ⟨o, e⟩
      · exact noLimit_but hg3 wk.lim hk3
      · exact fun c hc => wk.sub c (D.sub c hc)
      · exact (Array.getElem?_eq_some_iff.mp hgs2).1
      · show s2.os = O
        rw [wk.os]
        show s1.os = O
        rw [seen.os]
        exact (show s.os = s₀.os from D.os).trans hO
end
end K21
/-! ## S25 -/
set_option Elab.async false
set_option linter.all false
set_option maxRecDepth 100000
set_option maxHeartbeats 1000000
/-! A generator def's promise by its body, in the wide logic. -/
namespace K21
open PySem PySem.Spec PyProof.Rows L2
open Sem (wp)
/-- a generator's run has ended -/
def GFin (P : Program) (w : World) (outer : List Env) (ex : List Addr) (H : Hp) (sc : Shared) : GEnd := fun W Pn s₀ s =>
  ∃ H', s.os = sc.os ∧ AllBare s.gens ∧ Un (frs outer) ex H H' sc.heap s.heap ∧ HOk P w H' s.heap ∧ Ex H H' ∧ s.heap.NoLimit ∧ (∀ b ∈ W, H' b = none ∧ ∃ o, s₀.heap.get? b = some o ∧ s.heap.get? b = some o) ∧
    ∀ b ∈ Pn, b ∉ W ∧ b ∉ frs outer ∧ H' b = none ∧ ∃ o, s₀.heap.get? b = some o ∧ s.heap.get? b = some o ∧ ∀ v, o.data ≠ .cell v
/-- the first wake, of a generator a that was made at s' by a call at sc -/
structure First (a : Addr) (ex : List Addr) (H : Hp) (outer : List Env) (sc s' : Shared) (W Pn : List Addr) (s : Shared) : Prop where
  os : s.os = s'.os
  bare : AllBare s.gens
  gsz : s'.gens.size ≤ s.gens.size
  exW : ∀ b ∈ ex, b ∈ W
  w : ∀ b ∈ W, (b ∈ ex ∨ s'.heap.objs.size ≤ b ∨ b = a) ∧ ∃ o, s.heap.get? b = some o ∧ ∀ v, o.data ≠ .cell v
  p : ∀ b ∈ Pn, b ∉ W ∧ H b = none ∧ b ∉ frs outer ∧ (∃ o, sc.heap.get? b = some o) ∧ ∃ o, s.heap.get? b = some o ∧ ∀ v, o.data ≠ .cell v
  keep : ∀ b o, b ∉ W → s'.heap.get? b = some o → s.heap.get? b = some o
/-- these may be changed amid the run: the consumer's -/
def ExqOk (base : Heap) (outer : List Env) (H : Hp) (s : Shared) (ex : List Addr) : Prop := ∀ b ∈ ex, H b = none ∧ b ∉ frs outer ∧ base.get? b = none ∧ b < s.heap.objs.size
/-- a generator that will hand out xs -/
def Made (P : Program) (w : World) (k : Nat) (outer : List Env) (H : Hp) (sc : Shared) (ex : List Addr) (xs : List (List V)) (u : Value) (s' : Shared) : Prop :=
  ∃ (a : Addr) (g : Nat) (c : Code), u = .ref a ∧ sc.heap.objs.size ≤ a ∧ GenN s'.heap a g 0 ∧ s'.gens[g]? = some (.fresh c) ∧ s'.gens.size = g + 1 ∧ sc.gens.size ≤ g ∧ s'.os = sc.os ∧ AllBare s'.gens ∧ s'.heap.NoLimit ∧
    (∀ b o, sc.heap.get? b = some o → s'.heap.get? b = some o) ∧ sc.heap.objs.size ≤ s'.heap.objs.size ∧
    ∀ (A : Around) (W Pn : List Addr) (s : Shared), Room k A → A.frames = some outer → First a ex H outer sc s' W Pn s → Will (model P w) A (g + 1) (fun b => sc.heap.get? b = none) (GFin P w outer ex H sc) xs W Pn s c ((model P w).den c) [] s
abbrev SpI := List V → Hp → List (List V) → Prop
structure GDef (P : Program) (w : World) (K : PySem.W.Frag) (mg : Str → Option Value) (base : Heap) (k : Nat) (f : Addr) (fd : FuncData) (ps : List Str) (sp : SpI) : Prop where
  len : ∀ vs H xs, sp vs H xs → vs.length = ps.length
  run : ∀ (A : Around) (outer : List Env) (s : Shared) (H : Hp) (args : Args) (us : List Value) (vs : List V) (ex : List Addr) (xs : List (List V)), Room k A → Env0 P w K mg base A outer s H → BindsTo s fd args (ps.zip us) → Vals vs us → sp vs H xs → ExqOk base outer H s ex →
    codeAny (model P w) A (.call (.ref f) args) (fun r s' => match r with | .ok (.ret u) => Made P w k outer H s ex xs u s' | _ => False) s
/-- the body's context -/
def wcx (P : Program) (w : World) (K : PySem.W.Frag) (mg : Str → Option Value) (base : Heap) (N : List Str) (qual : Str) (scope : Scope) (f : Addr) (cd : Value) (A : Around) (outer : List Env) (s : Shared) (H : Hp) (ex : List Addr) : Cx :=
  { cxOf CX0 P w K mg base N qual scope f cd A outer s H E0 with ex := ex, xe := fun _ _ => False }
theorem nox_w {P : Program} {w : World} {K : PySem.W.Frag} {mg : Str → Option Value} {base : Heap} {N : List Str} {qual : Str} {scope : Scope} {f : Addr} {cd : Value} {A : Around} {outer : List Env} {s : Shared} {H : Hp} {ex : List Addr} : NoX (wcx P w K mg base N qual scope f cd A outer s H ex) := fun _ _ h => h.elim
theorem till_func {P : Program} {w : World} {A : Around} {lo : Nat} {Z : At} {fs : List Frame} {s : Shared} {env : Env} {body : List Stmt}
    (h : ∀ J, Till (model P w) A lo Z (.func body env) ((execs body env).wrap (fun f => .pure (.done (.ret (match f with | .ret v => v | _ => .none)))) J id id) fs s) : Till (model P w) A lo Z (.func body env) ((model P w).den (.func body env)) fs s := by
  show Till _ A lo Z _ (.point [] fun _ => ((execs body env).onRaise (leaving env)) >>= _) fs s
  refine till_point ?_
  rw [Sem.onRaise_eq_wrap, Sem.bind_eq_wrap', Sem.wrap_wrap]
  rw [Sem.wrap_congr (execs body env) _ _ (K' := fun f => .pure (.done (.ret (match f with | .ret v => v | _ => .none)))) (H' := fun e => _) (fun f => by cases f <;> rfl) (fun e => rfl)]
  exact h _
theorem gdef_of {P : Program} {w : World} {K : PySem.W.Frag} {mg : Str → Option Value} {base : Heap} {k : Nat} {f : Addr} {name qual : Str} {params : Arguments} {body : List Stmt} {scope : Scope} {dV kV doc pm cdv ct oc : Value} {an od : Option Addr}
    {osl : Array (Option Value)} {N ps : List Str} {sp : SpI} (lk : K.lookup f = some ⟨oc, od, .func (PySem.W.fnOf name qual params body scope dV kV doc pm an cdv ct), osl⟩) (hcd : PySem.W.codeIn K cdv qual = true) (S : GScope N ps scope)
    (len : ∀ vs H xs, sp vs H xs → vs.length = ps.length)
    (hbody : ∀ (A : Around) (outer : List Env) (s : Shared) (H : Hp) (vs : List V) (xs : List (List V)) (ex : List Addr), Room k (A.deeper (envOfC qual scope s.heap.objs.size f cdv)) → sp vs H xs →
      ∃ t, WGSs (wcx P w K mg base N qual scope f cdv A outer s H ex) body t ∧ t (fun ys _ H' => ys = [] ∧ Ex H H') xs (start N vs) H) :
    GDef P w K mg base (k + 1) f (PySem.W.fnOf name qual params body scope dV kV doc pm an cdv ct) ps sp := by
  refine ⟨len, fun A outer s H args us vs ex xs hr e0 hb r hsp hex => ?_⟩
  have hl := len _ _ _ hsp
  have KX : K.In s.heap := e0.mod.kin.keeps fun b o e => (e0.bs b o e).1
  have lim : s.heap.NoLimit := e0.mod.nolimit.keeps fun b o e => (e0.bs b o e).1
  have hkind : ∀ y ∈ ps.zip us, scope.names.lookup y.1 = some .local ∨ (scope.names.lookup y.1 = some .cell ∧ ((cellsFrom (s.heap.objs.size + 1) scope.names []).lookup y.1).isSome = true) := fun ⟨n, v⟩ hy =>
    (S.par n (List.of_mem_zip hy).1).imp id fun q => ⟨q, PySem.W.cellsFrom_some _ _ _ (.inl q)⟩
  refine codeAny_call_generator hr.depth (KX _ _ lk) rfl S.co S.gen rfl (PySem.W.codeRec_of KX hcd) (hb _ _ _ _ ?_)
  refine wpAny_newFunctionEnv_cells S.kind hkind fun env he s1 x => ?_
  subst he
  have lim1 : s1.heap.NoLimit := lim.keeps x.toInCall.keep
  refine ⟨lim1, ?_⟩
  obtain ⟨h1, tk, es1, hk1⟩ := x.done
  have os1 : s1.os = s.os := by rw [es1]
  have gen1 : s1.gens = s.gens := by rw [es1]
  have lt1 : s.heap.objs.size < s1.heap.objs.size := x.toInCall.ns.lt
  have sz1 : s.heap.objs.size ≤ s1.heap.objs.size := Nat.le_of_lt lt1
  have kp1 : ∀ b o, s.heap.get? b = some o → s1.heap.get? b = some o := x.toInCall.keep
  have main : ∀ (go : Obj) (nm qn : Value) (tk2 : Nat), go.cls = .type "generator" → go.data = .fields #[.int s1.gens.size 0, nm, qn] → go.slots = #[] → (∀ h : Heap, (h.push go).get? h.objs.size = some go) →
      Made P w (k + 1) outer H s ex xs (.ref s1.heap.objs.size) { s1 with gens := s1.gens.push (.fresh (.func body (envOfC qual scope s.heap.objs.size f cdv))), toks := tk2, heap := s1.heap.push go } := by
    intro go nm qn tk2 hgc hgd0 hgs hgp
    have hpushed : (s1.heap.push go).get? s1.heap.objs.size = some go := hgp _
    have szp : (s1.heap.push go).objs.size = s1.heap.objs.size + 1 := Heap.size_push ..
    refine ⟨s1.heap.objs.size, s1.gens.size, _, rfl, sz1, ⟨go, nm, qn, hpushed, hgc, hgd0, .inl ⟨rfl, hgs⟩⟩, Array.getElem?_push_size .., Array.size_push .., Nat.le_of_eq (by rw [gen1]), os1, ?_, lim1.keeps fun b o e => Heap.get?_push_of_some _ e,
      fun b o e => Heap.get?_push_of_some _ (kp1 b o e), ?_, ?_⟩
    · exact AllBare.push (by rw [gen1]; exact e0.bare) rfl
    · show s.heap.objs.size ≤ (s1.heap.push go).objs.size
      omega
    intro Aw W Pn s2 hrw hfr F
    have e0w : Env0 P w K mg base Aw outer s H := ⟨hfr, e0.mod, e0.bs, e0.bsz, e0.funs, e0.frf, e0.hok, e0.bare⟩
    obtain ⟨t, ht, hq⟩ := hbody Aw outer s H vs xs ex (hrw.deeper _) hsp
    have Ig : Inv (gcxOf P w K mg base N qual scope f cdv Aw outer s H E0 []) [] (start N vs) H s1 := inv_startG S hrw.hd e0w hl r x
    have cab : ∀ y c, (cellsFrom (s.heap.objs.size + 1) scope.names []).lookup y = some c → s.heap.objs.size < c := fun y c e => x.above y c (PySem.mem_of_lookup e)
    have I1 : Inv (wcx P w K mg base N qual scope f cdv Aw outer s H ex) [] (start N vs) H s1 := by
      refine ⟨⟨Ig.ok.mod, Ig.ok.kind, Ig.ok.glob, Ig.ok.blt, Ig.ok.above, Ig.ok.inj, Ig.ok.has, Ig.ok.cab, Ig.ok.hd, Ig.ok.frames, Ig.ok.stk, fun b hb => ⟨?_, fun y c e => ?_⟩, Ig.ok.bs, Ig.ok.bsz, fun b o e hb => ?_, fun b hb => (hex b hb).2.1, Ig.ok.funs, Ig.ok.frf⟩,
        Ig.os, Ig.bare, Ig.base.mono (fun _ q => q) (fun b hb => absurd (show b ∈ ([] : List Addr) from hb) (by simp)), Ig.loc, Ig.cell, Ig.free, Ig.freeC, Ig.pin, Ig.hok, Ig.len⟩
      · exact Nat.ne_of_lt (hex b hb).2.2.2
      · exact fun z => absurd (Nat.lt_trans (hex b hb).2.2.2 (by rw [← z]; exact cab y c e)) (Nat.lt_irrefl _)
      · have e' : base.get? b = some o := e
        rw [(hex b hb).2.2.1] at e'; cases e'
    have nW : ∀ b ∈ W, H b = none ∧ (b ∈ ex ∨ s.heap.objs.size ≤ b) ∧ b ≠ s.heap.objs.size ∧ b ∉ frs outer ∧ ∀ y c, (cellsFrom (s.heap.objs.size + 1) scope.names []).lookup y = some c → c ≠ b := fun b hb => by
      have young : s1.heap.objs.size ≤ b → H b = none ∧ (b ∈ ex ∨ s.heap.objs.size ≤ b) ∧ b ≠ s.heap.objs.size ∧ b ∉ frs outer ∧ ∀ y c, (cellsFrom (s.heap.objs.size + 1) scope.names []).lookup y = some c → c ≠ b := fun q => by
        refine ⟨Ig.hok.fresh q, .inr (Nat.le_trans sz1 q), Nat.ne_of_gt (Nat.lt_of_lt_of_le lt1 q), Ig.nofs q, fun y c e z => ?_⟩
        obtain ⟨v, ob, ho, _⟩ := Ig.cell y c e
        have := Heap.lt_size ho
        rw [z] at this
        exact absurd (Nat.lt_of_lt_of_le this q) (Nat.lt_irrefl _)
      rcases (F.w b hb).1 with z | z | z
      · obtain ⟨q1, q2, _, q4⟩ := hex b z
        exact ⟨q1, .inl z, Nat.ne_of_lt q4, q2, fun y c e y2 => absurd (Nat.lt_trans q4 (by rw [← y2]; exact cab y c e)) (Nat.lt_irrefl _)⟩
      · have z' : (s1.heap.push go).objs.size ≤ b := z
        exact young (by omega)
      · exact young (Nat.le_of_eq z.symm)
    have kW : ∀ b o, b ∉ W → s1.heap.get? b = some o → s2.heap.get? b = some o := fun b o hb e => F.keep b o hb (Heap.get?_push_of_some _ e)
    have I2 : Inv (wcx P w K mg base N qual scope f cdv Aw outer s H ex) [] (start N vs) H s2 := by
      refine I1.call' (ch := W) (F.os.trans rfl) ⟨fun b o q _ _ hx => kW b o hx q, fun b o q _ _ hx => ⟨o.slots, kW b o hx q⟩, fun _ _ _ n _ => n, fun b o q hx => ⟨o, kW b o hx q⟩, fun _ _ q => q, fun _ _ _ q => q, fun b ps q => ⟨#[], by rw [q]; simp⟩⟩ (fun b u q => ?_) F.bare fun b hb => ?_
      · refine (Ig.hok b u q).stay (fun c v hc y => kW c v (fun z => ?_) y) (fun _ y => y) fun _ _ y => y
        have hn := (nW c z).1
        rcases hc with y | y
        · rw [y, q] at hn; cases hn
        · rw [y] at hn; cases hn
      · obtain ⟨_, q2, q3, _, q5⟩ := nW b hb
        exact ⟨q2, q3, q5, fun p hp => absurd (show p ∈ ([] : List (Addr × Obj)) from hp) (by simp)⟩
    refine till_func fun J => ?_
    refine ht.run (s1.gens.size + 1) Aw _ [] _ [] _ J id id xs W Pn s2 s2 (start N vs) H (fun ys _ H' => ys = [] ∧ Ex H H') ⟨GenW.over_func, rfl, rfl, rfl⟩ (fun ys W' P' s0 s3 σ3 H3 G3 q3 => ?_) ⟨I2, fun b hb => ?_, fun b hb => ?_, Nat.le_refl _, rfl, ?_, F.exW⟩ hq
    · obtain ⟨rfl, he⟩ := q3
      refine till_here fun pp => ⟨rfl, .inl rfl, H3, G3.inv.os, G3.inv.bare, G3.inv.base, G3.inv.hok, he, G3.inv.nolimit, fun b hb => ?_, fun b hb => ?_⟩
      · obtain ⟨⟨f1, _⟩, o, e1, e2, _⟩ := G3.w b hb
        exact ⟨f1, o, e1, e2⟩
      · obtain ⟨f0, f1, _, f3, _, o, e1, e2, d⟩ := G3.p b hb
        exact ⟨f0, f3, f1, o, e1, e2, d⟩
    · obtain ⟨q1, q2, q3, q4, q5⟩ := nW b hb
      obtain ⟨_, o, e, d⟩ := F.w b hb
      exact ⟨⟨q1, q3, q4, q2, q5, fun p hp => absurd (show p ∈ ([] : List (Addr × Obj)) from hp) (by simp)⟩, o, e, e, d⟩
    · obtain ⟨f0, f1, f2, ⟨o0, e0'⟩, o, e, d⟩ := F.p b hb
      exact ⟨f0, f1, Nat.ne_of_lt (Heap.lt_size e0'), f2, fun q hq => (by simp at hq), o, e, e, d⟩
    · have q : (s1.gens.push (.fresh (.func body (envOfC qual scope s.heap.objs.size f cdv)))).size ≤ s2.gens.size := F.gsz
      rw [Array.size_push] at q
      exact q
  exact main _ _ _ _ rfl rfl rfl fun h => Heap.get?_push_size _ rfl
end K21
/-! ## S26 -/
set_option Elab.async false
set_option linter.all false
set_option maxRecDepth 100000
set_option maxHeartbeats 1000000
/-! The statement yield from f(..). -/
namespace K21
open PySem PySem.Spec PyProof.Rows L2
open Sem (wp)
/-- an expression whose value is a generator that has not begun -/
abbrev TMade := L2.St → Hp → (List (List V) → Hp → Prop) → Prop
structure PMade (X : Cx) (k : Nat) (e : Expr) (tg : TMade) : Prop where
  run : ∀ (pins : List (Addr × Obj)) (s : Shared) (σ : L2.St) (H : Hp) (cont : List (List V) → Hp → Prop) (W : List Addr), Inv X pins σ H s → (∀ b ∈ W, (b ∈ X.ex ∨ X.s_0.heap.objs.size ≤ b) ∧ ∃ o, (b, o) ∈ pins) → tg σ H cont →
    wpAny (model X.prog X.w) X.A (eval e X.env) (fun u s1 => ∃ H1 sc xs, Inv X pins σ H1 sc ∧ Made X.prog X.w k X.stack H1 sc W xs u s1 ∧ s.gens.size ≤ sc.gens.size ∧ cont xs H1) X.xe s
theorem exq_of {X : Cx} {pins : List (Addr × Obj)} {s : Shared} {σ : L2.St} {H : Hp} {W : List Addr} (I : Inv X pins σ H s) (h : ∀ b ∈ W, (b ∈ X.ex ∨ X.s_0.heap.objs.size ≤ b) ∧ ∃ o, (b, o) ∈ pins) : ExqOk X.base X.stack H s W := fun b hb => by
  obtain ⟨hy, o, hp⟩ := h b hb
  obtain ⟨e, q1, q2, q3, _⟩ := I.pin (b, o) (List.mem_append_right _ hp)
  refine ⟨q1, fun z => ?_, ?_, Heap.lt_size e⟩
  · rcases List.mem_cons.mp (I.stkSub b z) with y | y
    · exact q2 y
    · exact q3 y
  · cases e2 : X.base.get? b with
    | none => rfl
    | some o2 =>
      rcases hy with y | y
      · exact absurd y (I.ok.noex b o2 e2)
      · exact absurd (Nat.lt_of_lt_of_le (Heap.lt_size e2) (Nat.le_trans I.ok.bsz y)) (Nat.lt_irrefl _)
def tMadeC (sp : SpI) (ta : TA) : TMade := fun σ H cont => ta σ H fun vs H1 => ∃ xs, sp vs H1 xs ∧ cont xs H1
theorem pm_call {X : Cx} {k : Nat} {f : Addr} {fd : FuncData} {ps : List Str} {sp : SpI} {x : Str} {p pos : Pos} {e : Expr} {es : List Expr} {ta : TA} (F : GDef X.prog X.w X.K X.mg X.base k f fd ps sp) (hr : Room k X.A) (hg : Gl X x) (hm : X.mg x = some (.ref f)) (hk : PySem.W.keepIn X.K (.ref f) = true) (hb : L2.Binds X.K fd ps []) (ha : PA X (e :: es) ta)
    (hdb : (x == ("__debug__" : Str)) = false := by decide) (he : starEach (e :: es) X.env = (false, eval e X.env) :: starEach es X.env := by rfl) (hpl : (backTo pos (starEach es X.env)).any (·.1) = false := by rfl) :
    PMade X k (.Call (.Name x p) (e :: es) [] pos) (tMadeC sp ta) := by
  refine ⟨fun pins s σ H cont W I hw h => ?_⟩
  refine wpAny_Call_Name_kw (ld_glob I hg hm ?_ hdb)
  refine PySem.W.callWith_K (h₀ := X.base) I.ok.mod.kin hk (GenW.wpAny_gsz (n := s.gens.size) (Nat.le_refl _) (wpAny_mono (ha.run pos pins s σ H _ I h) (fun us s1 ⟨vs, H1, I1, r, xs, q, hc⟩ hgz => ⟨I1.kIn, ?_⟩) fun _ _ y _ => y)) he hpl
  have hl : us.length = ps.length := by rw [← r.length]; exact F.len _ _ _ q
  have hz := hb s1 us I1.kIn (by rw [List.append_nil]; exact hl)
  rw [List.append_nil] at hz
  refine wpAny_call (codeAny_mono (F.run X.A X.stack s1 H1 ⟨us, []⟩ us vs W xs hr I1.env0 hz r q (exq_of I1 hw)) fun r s' hq => ?_)
  cases r with
  | error e => exact False.elim hq
  | ok fl =>
    cases fl with
    | ret u => exact ⟨H1, s1, xs, I1, hq, hgz, hc⟩
    | next => exact False.elim hq
    | brk => exact False.elim hq
    | cont => exact False.elim hq
theorem iter_genN {P : Program} {w : World} {A : Around} {E : Value → Shared → Prop} {s : Shared} {a : Addr} {g : Nat} {n : Int} {Q : Value → Shared → Prop} (hg : GenN s.heap a g n) (h : Q (.ref a) s) : wpAny (model P w) A (pyIter (.ref a)) Q E s := by
  refine wpAny_pyIter_slot hg.ty slot_gen_iter (wpAny_call_entry slot_gen_iter hg.ty entry_gen_iter ?_ (args_gen_iter _))
  show wpAny _ _ (ret (.ref a)) _ _ s
  exact wpAny_pure ⟨_, rfl, "generator", _, hg.ty, slot_gen_next.lookup, h⟩
section
variable {A : Around} {c : Code} {fs : List Frame} {k : Result → Sem PySem.Fin} {gd : Bool} {l kp : List Value} {p : Pos} {a : Addr}
theorem yf_depth : (A.over (yfCode a) (.ret k none gd l c p kp :: fs)).depth = (A.over c fs).depth := by
  show A.depth + frameCount ((c, p) :: fs.map Frame.where_) + 0 = A.depth + frameCount (fs.map Frame.where_) + c.weight
  rw [frameCount_cons]; omega
theorem yf_units : (A.over (yfCode a) (.ret k none gd l c p kp :: fs)).units = (A.over c fs).units + 1 := by
  show A.units + unitsOf ((c, p) :: fs.map Frame.where_) + 1 = A.units + unitsOf (fs.map Frame.where_) + c.cUnits + 1
  rw [unitsOf_cons]; omega
theorem yf_frames : (A.over (yfCode a) (.ret k none gd l c p kp :: fs)).frames = (A.over c fs).frames := by
  show pushEnvs (yfCode a).envs (pushEnvs (envsOf ((c, p) :: fs.map Frame.where_)) A.frames) = pushEnvs c.envs (pushEnvs (envsOf (fs.map Frame.where_)) A.frames)
  rw [Code.envs_of_weight (c := yfCode a) rfl, envsOf_cons]
  simp only [pushEnvs_eq]
  cases A.frames <;> simp [List.append_assoc]
end
def tWFrom (tg : TMade) : TW := fun D xs σ H => tg σ H fun pre H1 => ∃ ys, xs = pre ++ ys ∧ ∀ H2, Ex H1 H2 → D ys σ H2
theorem wgs_from {X : Cx} {k j : Nat} {e : Expr} {tg : TMade} {yp pos : Pos} (hx : NoX X) (hm : PMade X k e tg) (hr : Room j X.A) (hk : k + 1 ≤ j) (hs : X.stack = X.env :: X.outer := by rfl) (hf : X.env.frame = some X.env.locals := by rfl) (hi : interactive X.env = false := by rfl) :
    WGS X (.Expr (.YieldFrom e yp) pos) (tWFrom tg) := by
  refine ⟨fun lo A R ip c fs K J gd lv xs W Pn s₀ s σ H D g kn G ht => ?_⟩
  rw [exec_Expr X.env _ pos hi rfl]
  show Till _ A lo _ c (.at pos fun _ => ((eval e X.env >>= fun v => (standAt yp >>= fun _ => yieldFrom X.env v)) >>= fun x => dropValue (.YieldFrom e yp) pos x).wrap K J gd lv) fs s
  refine till_at ?_
  rw [Sem.bind_eq_wrap' (eval e X.env >>= _), Sem.wrap_wrap]
  refine till_bw ?_
  rw [g.over]
  have pinW : ∀ b ∈ W, (b ∈ X.ex ∨ X.s_0.heap.objs.size ≤ b) ∧ ∃ o, (b, o) ∈ ip ++ pinsAt (W ++ Pn) s₀.heap := fun b hb => by
    obtain ⟨⟨_, _, _, q, _⟩, o, e1, _⟩ := G.w b hb
    exact ⟨q, o, List.mem_append_right _ (mem_pinsAt (List.mem_append_left _ hb) e1)⟩
  refine on_mono (on_grown (on_calm hx (hm.run _ s σ H _ W G.pins pinW ht))) (fun u s1 ⟨z1, y1, H1, sc, pre, Isc, hM, hgsz0, ys, exs, hD⟩ => ?_) fun _ _ q => q.2.2.elim
  subst exs
  obtain ⟨a, gn, c0, rfl, ha, hgen, hfresh, hgsz, hgsc, hos, hbare, hlim, hkp, hsz, hrun⟩ := hM
  have atsc : ∀ b, b ∈ W ∨ b ∈ Pn → ∀ o, s₀.heap.get? b = some o → sc.heap.get? b = some o ∧ H1 b = none := fun b hb o eo =>
    have zz := Isc.pin (b, o) (List.mem_append_right _ (List.mem_append_right _ (mem_pinsAt (List.mem_append.mpr hb) eo)))
    ⟨zz.1, zz.2.1⟩
  have stk : ∀ b, b ∈ frs X.stack ↔ b = X.env.locals ∨ b ∈ X.fs := fun b => by
    rw [hs]
    show b ∈ (X.env :: X.outer).filterMap (·.frame) ↔ _
    rw [List.filterMap_cons, hf]
    exact List.mem_cons
  have neA : ∀ b, b ∈ W ∨ b ∈ Pn → b ≠ a := fun b hb z => by
    have : ∃ o, s₀.heap.get? b = some o := by
      rcases hb with y | y
      · obtain ⟨_, o, e1, _⟩ := G.w b y; exact ⟨o, e1⟩
      · obtain ⟨_, _, _, _, _, o, e1, _⟩ := G.p b y; exact ⟨o, e1⟩
    obtain ⟨o, e1⟩ := this
    have := Heap.lt_size (atsc b hb o e1).1
    rw [z] at this
    exact absurd (Nat.lt_of_lt_of_le this ha) (Nat.lt_irrefl _)
  refine till_bw (on_standAt ?_)
  unfold yieldFrom
  refine till_bw (on_of (wpAny_typeOf (T := "generator") hgen.ty ?_))
  rw [if_neg (by decide)]
  refine till_bw (on_hold (on_of (iter_genN hgen ?_)))
  show Till _ A lo _ c (.call (yfCode a) none (gd false) (lv []) _) fs s1
  refine till_call fun p => ?_
  have hB : ∀ kk, (A.over (yfCode a) (.ret kk none (gd false) (lv []) c p [] :: fs)).handled = X.A.handled := fun kk => by
    rw [← g.over]; rfl
  have hroom : ∀ kk, Room k (A.over (yfCode a) (.ret kk none (gd false) (lv []) c p [] :: fs)).in1 := fun kk => by
    refine ⟨(hB kk).trans hr.hd, ?_, ?_⟩
    · have := hr.dp
      show (A.over (yfCode a) (.ret kk none (gd false) (lv []) c p [] :: fs)).depth + 3 * k + 5 < _
      rw [yf_depth, g.over]; omega
    · have := hr.un
      show (A.over (yfCode a) (.ret kk none (gd false) (lv []) c p [] :: fs)).units + 1 + 16 * k + 200 < _
      rw [yf_units, g.over]; omega
  have hfram : ∀ kk, (A.over (yfCode a) (.ret kk none (gd false) (lv []) c p [] :: fs)).in1.frames = some X.stack := fun kk => by
    show (A.over (yfCode a) (.ret kk none (gd false) (lv []) c p [] :: fs)).frames = _
    rw [yf_frames, g.over]; exact Isc.ok.frames
  refine till_yf (z := sc.heap.objs.size) (W0 := W) (P0 := Pn) (h0 := sc.heap) (O := X.s_0.os) (RI := GFin X.prog X.w X.stack W H1 sc) (Ii := fun b => sc.heap.get? b = none) (g := gn) ((hB _).trans hr.hd) ?_ ?_ ?_ ?_ (fun b hb => ?_) (fun b hb => hb) (fun W' Pn' s0' s' s1' h' Dd hR hz hgz hk' hhz hO => ?_) pre W Pn s₀ s1 (.fresh c0) 0 hgen (Int.le_refl _) hfresh ?_ ⟨?_, fun z => neA a (.inl z) rfl, fun z => neA a (.inr z) rfl, ?_, Nat.le_trans G.sz z1, hsz, fun b hb => .inl hb, fun b hb => .inl hb, fun b hb => ?_, fun b hb => ?_, hlim, fun b hb => hb, ?_⟩ ?_
  · rw [yf_depth, g.over]; exact hr.depth
  · show (splitAtGen fs).map _ = none
    rw [g.split]; rfl
  · show (gd false || fs.any Frame.guarded) = false
    rw [g.gd, g.guard]; rfl
  · have := G.gsz
    omega
  · show X.s_0.heap.get? b = none
    cases e1 : X.s_0.heap.get? b with
    | none => rfl
    | some o =>
      by_cases hx' : b ∈ X.ex
      · obtain ⟨_, o', e2, _⟩ := G.w b (G.exW b hx')
        rw [(atsc b (.inl (G.exW b hx')) o' e2).1] at hb; cases hb
      · obtain ⟨o', e2⟩ := Isc.base.there b o e1 hx'
        rw [e2] at hb; cases hb
  · -- the end
    obtain ⟨H', f1, f2, f3, f4, f5, f6, f7, f8⟩ := hR
    have keepW : ∀ b ∈ W', H' b = none ∧ ∃ o, s0'.heap.get? b = some o ∧ h'.get? b = some o ∧ ∀ v, o.data ≠ .cell v := fun b hb => by
      obtain ⟨o, e1, d⟩ := Dd.thW b hb
      have e2 := Dd.keep b (.inl hb) o e1
      obtain ⟨q1, o2, e3, e4⟩ := f7 b (List.mem_cons_of_mem _ hb)
      have e3' : s'.heap.get? b = some o2 := e3
      rw [e2] at e3'; cases e3'
      exact ⟨q1, o, e1, hk' b o e4, d⟩
    have keepP : ∀ b ∈ Pn', b ∉ W' ∧ b ∉ frs X.stack ∧ H' b = none ∧ ∃ o, s0'.heap.get? b = some o ∧ h'.get? b = some o ∧ ∀ v, o.data ≠ .cell v := fun b hb => by
      obtain ⟨o, e1⟩ := Dd.thP b hb
      have e2 := Dd.keep b (.inr hb) o e1
      obtain ⟨q0, q1, q2, o2, e3, e4, d⟩ := f8 b hb
      have e3' : s'.heap.get? b = some o2 := e3
      rw [e2] at e3'; cases e3'
      exact ⟨fun z => q0 (List.mem_cons_of_mem _ z), q1, q2, o, e1, hk' b o e4, d⟩
    have I0 : Inv X ip σ H1 sc := Isc.unpinned
    have fin : GIw X lo W' Pn' ip s0' σ H' { s1'.setGen gn .finished with heap := h' } := by
      refine ⟨I0.call' (s' := { s1'.setGen gn .finished with heap := h' }) (ch := W) f1 (f3.trans (Un.kept hk')) (f4.kept hk') (allBare_setGen f2 rfl) (fun b hb => ?_), fun b hb => ?_, fun b hb => ?_, ?_, ?_, ?_, fun b hb => ?_⟩
      · obtain ⟨_, q2, q3, q4, q5, q6⟩ := (G.w b hb).1
        exact ⟨q4, q2, q5, q6⟩
      · obtain ⟨q1, r⟩ := keepW b hb
        refine ⟨?_, r⟩
        rcases Dd.new b hb with y | y
        · obtain ⟨_, q⟩ := (G.w b y).1
          exact ⟨q1, q⟩
        · exact I0.fpOk y q1
      · obtain ⟨q0, q1, q2, r⟩ := keepP b hb
        refine ⟨q0, q2, fun z => q1 ((stk b).mpr (.inl z)), fun z => q1 ((stk b).mpr (.inr z)), fun q hq z => ?_, r⟩
        rcases Dd.newP b hb with y | y
        · exact (G.p b y).2.2.2.2.1 q hq z
        · have := (I0.pin q (List.mem_append_right _ hq)).1
          rw [z, y] at this; cases this
      · show s0'.heap.objs.size ≤ h'.objs.size
        exact Nat.le_trans Dd.sz (Nat.le_trans hz hhz)
      · show s1'.os = s0'.os
        rw [f1, I0.os, hO]
      · show lo ≤ (s1'.setGen gn .finished).gens.size
        rw [setGen_size']
        have q1 : s'.gens.size ≤ s1'.gens.size := hgz
        have q2 := Dd.gl
        have q3 := G.gsz
        omega
      · exact Dd.sub b (G.exW b hb)
    exact till_leaf (.ok (.ret .none)) (kn ys W' Pn' s0' _ σ H' fin (hD H' f5))
  · refine hrun _ (a :: W) Pn (s1.setGen gn .running) (hroom _) (hfram _) ⟨rfl, allBare_setGen hbare rfl, ?_, fun b hb => List.mem_cons_of_mem _ hb, fun b hb => ?_, fun b hb => ?_, fun b o _ eb => eb⟩
    · show s1.gens.size ≤ (s1.setGen gn .running).gens.size
      rw [setGen_size']; exact Nat.le_refl _
    · rcases List.mem_cons.mp hb with rfl | hb
      · obtain ⟨o, e1, _, d⟩ := hgen.num
        exact ⟨.inr (.inr rfl), o, e1, d⟩
      · obtain ⟨_, o, e1, _, d⟩ := G.w b hb
        exact ⟨.inl hb, o, hkp b o (atsc b (.inl hb) o e1).1, d⟩
    · obtain ⟨q0, _, q2, q3, _, o, e1, _, d⟩ := G.p b hb
      obtain ⟨e2, q1⟩ := atsc b (.inr hb) o e1
      refine ⟨fun z => (List.mem_cons.mp z).elim (neA b (.inr hb)) q0, q1, fun z => ((stk b).mp z).elim q2 q3, ⟨o, e2⟩, o, hkp b o e2, d⟩
  · intro b hb o e1
    exact hkp b o (atsc b hb o e1).1
  · rw [hos, Isc.os, ← G.os, G.inv.os]
  · obtain ⟨_, o, e1, _, d⟩ := G.w b hb
    exact ⟨o, e1, d⟩
  · obtain ⟨_, _, _, _, _, o, e1, _⟩ := G.p b hb
    exact ⟨o, e1⟩
  · omega
  · rw [← G.os, G.inv.os]
end K21
/-! ## S27 -/
set_option Elab.async false
set_option linter.all false
set_option maxRecDepth 100000
set_option maxHeartbeats 1000000
/-! A consumer of a generator. -/
namespace K21
open PySem PySem.Spec PyProof.Rows L2
open Sem (wp)
/-- the generator a, of number g, made by a call at sc, sleeps; xs are to come -/
structure Cs (P : Program) (w : World) (A : Around) (outer : List Env) (H : Hp) (sc : Shared) (a : Addr) (g : Nat) (xs : List (List V)) (W Pn : List Addr) (s : Shared) : Prop where
  obj : GenN s.heap a g 0
  go : ∃ gs, s.gens[g]? = some gs ∧ Goes1 (model P w) A (g + 1) (Out (model P w) A (g + 1) (fun b => sc.heap.get? b = none) (GFin P w outer [] H sc) xs W Pn (s.setGen g .running)) gs (s.setGen g .running)
  lim : s.heap.NoLimit
  mem : a ∈ W
  th : ∀ b ∈ W, ∃ o, s.heap.get? b = some o ∧ ∀ v, o.data ≠ .cell v
section
variable {P : Program} {w : World} {A : Around} {outer : List Env} {H : Hp} {sc s : Shared} {a : Addr} {g : Nat} {W Pn : List Addr} {xs : List (List V)}
/-- ahead of the first item -/
theorem cs_first {k : Nat} {u : Value} {s' : Shared} (h : Made P w k outer H sc [] xs u s') (hr : Room k A) (hf : A.frames = some outer) : ∃ a g, u = .ref a ∧ sc.heap.objs.size ≤ a ∧ GenN s'.heap a g 0 ∧ s'.os = sc.os ∧ (∀ b o, sc.heap.get? b = some o → s'.heap.get? b = some o) ∧ sc.heap.objs.size ≤ s'.heap.objs.size ∧ s'.heap.NoLimit ∧
    ∀ (W : List Addr) (s : Shared), s.os = s'.os → s.gens = s'.gens → a ∈ W → (∀ b ∈ W, (s'.heap.objs.size ≤ b ∨ b = a) ∧ ∃ o, s.heap.get? b = some o ∧ ∀ v, o.data ≠ .cell v) → (∀ b o, b ∉ W → s'.heap.get? b = some o → s.heap.get? b = some o) → GenN s.heap a g 0 → s.heap.NoLimit →
      Cs P w A outer H sc a g xs W [] s := by
  obtain ⟨a, g, c, rfl, ha, hgen, hfr, hgsz, hgsc, hos, hbare, hlim, hkp, hsz, hrun⟩ := h
  refine ⟨a, g, rfl, ha, hgen, hos, hkp, hsz, hlim, fun W s e1 e2 hW hw hk hg hl => ⟨hg, ⟨.fresh c, by rw [e2]; exact hfr, ?_⟩, hl, hW, fun b hb => (hw b hb).2⟩⟩
  refine hrun A W [] (s.setGen g .running) hr hf ⟨e1, allBare_setGen (by rw [e2]; exact hbare) rfl, ?_, fun b hb => (by simp at hb), fun b hb => ?_, fun b hb => (by simp at hb), hk⟩
  · rw [setGen_size', e2]; exact Nat.le_refl _
  · obtain ⟨h1, h2⟩ := hw b hb
    exact ⟨.inr h1, h2⟩
/-- behind the consumer's doings with an item -/
theorem cs_again {ys : List (List V)} {W' : List Addr} {b : Addr} {N : List Nat} {s' s2 : Shared} {gs' : GenState} {s₀ : Shared} (hgl : g < s'.gens.size) (seen : Seen W Pn (g + 1) N s₀ s')
    (wakes : ∀ W' s'', Woke W W' N s' s'' → Goes1 (model P w) A (g + 1) (Out (model P w) A (g + 1) (fun b => sc.heap.get? b = none) (GFin P w outer [] H sc) ys W' (b :: Pn) s'') gs' s'')
    (hos : s2.os = s'.os) (hgens : s2.gens = (s'.setGen g gs').gens) (hsub : ∀ b ∈ W, b ∈ W') (hnew : ∀ b ∈ W', b ∈ W ∨ s'.heap.objs.size ≤ b) (hk : ∀ b o, b ∉ W' → s'.heap.get? b = some o → s2.heap.get? b = some o)
    (hth : ∀ b ∈ W', ∃ o, s2.heap.get? b = some o ∧ ∀ v, o.data ≠ .cell v) (hsz : s'.heap.objs.size ≤ s2.heap.objs.size) (hlim : s2.heap.NoLimit) (hg : GenN s2.heap a g 0) (ha : a ∈ W) : Cs P w A outer H sc a g ys W' (b :: Pn) s2 := by
  have e2 : s2.gens[g]? = some gs' := by
    rw [hgens]
    show (s'.gens.setIfInBounds g gs')[g]? = some gs'
    simp [hgl]
  have e3 : ∀ i, i ≠ g → (s2.setGen g .running).gens[i]? = s'.gens[i]? := fun i ne => by
    show (s2.gens.setIfInBounds g .running)[i]? = _
    rw [Array.getElem?_setIfInBounds_ne (Ne.symm ne), hgens]
    show (s'.gens.setIfInBounds g gs')[i]? = _
    rw [Array.getElem?_setIfInBounds_ne (Ne.symm ne)]
  have hl2 : g < s2.gens.size := (Array.getElem?_eq_some_iff.mp e2).1
  refine ⟨hg, ⟨gs', e2, wakes W' _ ⟨hos, fun i y e hi => ?_, fun i hi => ?_, hsub, hnew, hk, hth, hsz, ?_, hlim⟩⟩, hlim, hsub a ha, hth⟩
  · by_cases ne : i = g
    · subst ne
      have e' : (s2.gens.setIfInBounds i .running)[i]? = some y := e
      rw [Array.getElem?_setIfInBounds_self_of_lt hl2] at e'
      cases e'; rfl
    · rw [e3 i ne] at e
      exact seen.gens i y e hi
  · exact e3 i fun z => by
      have := seen.own i hi
      omega
  · rw [setGen_size', hgens, setGen_size']; exact Nat.le_refl _
end
/-- rows that stand in the heap -/
def RowsAre (h : Heap) (rs : List Addr) (xs : List (List V)) : Prop := rs.length = xs.length ∧ ∀ (i : Nat) r x, rs[i]? = some r → xs[i]? = some x → RowH x r h
theorem RowsAre.keep {h h' : Heap} {rs : List Addr} {xs : List (List V)} (q : RowsAre h rs xs) (k : ∀ r ∈ rs, ∀ o, h.get? r = some o → h'.get? r = some o) : RowsAre h' rs xs :=
  ⟨q.1, fun i r x e1 e2 => by
    obtain ⟨l, acc, c, e, v⟩ := q.2 i r x e1 e2
    exact ⟨l, acc, c, k r (List.mem_of_getElem? e1) _ e, v⟩⟩
theorem RowsAre.snoc {h : Heap} {rs : List Addr} {xs : List (List V)} {r : Addr} {x : List V} (q : RowsAre h rs xs) (e : RowH x r h) : RowsAre h (rs ++ [r]) (xs ++ [x]) := by
  refine ⟨by simp [q.1], fun i r' x' e1 e2 => ?_⟩
  by_cases hi : i < rs.length
  · rw [List.getElem?_append_left hi] at e1
    rw [List.getElem?_append_left (by rw [← q.1]; exact hi)] at e2
    exact q.2 i r' x' e1 e2
  · rw [List.getElem?_append_right (by omega)] at e1
    rw [List.getElem?_append_right (by rw [← q.1]; omega)] at e2
    have : i - rs.length = 0 := by
      cases z : i - rs.length with
      | zero => rfl
      | succ n => rw [z] at e1; simp at e1
    rw [this] at e1
    rw [← q.1, this] at e2
    cases e1; cases e2; exact e
/-- the abstract heap with a list of rows at S, the rows at rs -/
def trk (H : Hp) (S : Addr) (rs : List Addr) (xs : List (List V)) : Hp := fun b => if b = S then some (.lst (rs.map V.ref)) else match (rs.zip xs).lookup b with
  | some x => some (.lst x)
  | none => H b
theorem zip_lookup : ∀ {rs : List Addr} {xs : List (List V)} {b : Addr} {x : List V}, (rs.zip xs).lookup b = some x → ∃ i : Nat, rs[i]? = some b ∧ xs[i]? = some x
  | [], _, _, _, h => by simp at h
  | r :: rs, [], _, _, h => by simp at h
  | r :: rs, y :: ys, b, x, h => by
    rw [List.zip_cons_cons, List.lookup_cons] at h
    by_cases z : b = r
    · subst z
      simp at h
      exact ⟨0, rfl, by rw [← h]; rfl⟩
    · have : (b == r) = false := by simpa using z
      rw [this] at h
      obtain ⟨i, e1, e2⟩ := zip_lookup h
      exact ⟨i + 1, e1, e2⟩
theorem lookup_zip : ∀ {rs : List Addr} {xs : List (List V)} {i : Nat} {b : Addr} {x : List V}, rs.Nodup → rs[i]? = some b → xs[i]? = some x → (rs.zip xs).lookup b = some x
  | [], _, _, _, _, _, h, _ => by simp at h
  | r :: rs, [], _, _, _, _, _, h => by simp at h
  | r :: rs, y :: ys, i, b, x, nd, h1, h2 => by
    rw [List.zip_cons_cons, List.lookup_cons]
    cases i with
    | zero =>
      cases h1; cases h2
      simp
    | succ i =>
      have nd' := List.nodup_cons.mp nd
      have h1' : rs[i]? = some b := h1
      have ne : b ≠ r := fun z => nd'.1 (by rw [← z]; exact List.mem_of_getElem? h1')
      have : (b == r) = false := by simpa using ne
      rw [this]
      exact lookup_zip nd'.2 h1' h2
/-- the end: the consumer's list and its rows are tracked -/
theorem inv_trk {X : Cx} {pins : List (Addr × Obj)} {σ : L2.St} {H H' : Hp} {sc s : Shared} {S : Addr} {rs : List Addr} {xs : List (List V)} {acc : Array Value} {c : Nat} (I : Inv X pins σ H sc) (os : s.os = sc.os) (hb : AllBare s.gens) (un : Un (frs X.stack) [] H H' sc.heap s.heap) (hok : HOk X.prog X.w H' s.heap)
    (hS : sc.heap.get? S = none) (hSn : H' S = none) (e : s.heap.get? S = some (lstObj acc c)) (hacc : acc.toList = rs.map Value.ref) (hlen : rs.length ≤ sizeLine) (hrs : ∀ r ∈ rs, sc.heap.get? r = none ∧ H' r = none) (rows : RowsAre s.heap rs xs) : Inv X pins σ (trk H' S rs xs) s := by
  have same : ∀ b, b ≠ S → b ∉ rs → trk H' S rs xs b = H' b := fun b h1 h2 => by
    unfold trk
    rw [if_neg h1]
    cases q : (rs.zip xs).lookup b with
    | none => rfl
    | some x =>
      obtain ⟨i, z, _⟩ := zip_lookup q
      exact absurd (List.mem_of_getElem? z) h2
  have old : ∀ b, H' b ≠ none → trk H' S rs xs b = H' b := fun b h => same b (fun z => h (by rw [z]; exact hSn)) fun z => h (hrs b z).2
  have old' : ∀ b ob, sc.heap.get? b = some ob → trk H' S rs xs b = H' b := fun b ob q => same b (fun z => by rw [z, hS] at q; cases q) fun z => by rw [(hrs b z).1] at q; cases q
  refine I.call' (ch := []) os ⟨un.keep, un.slot, fun b ob q n hx => ?_, un.there, fun b ys q => ?_, fun b ob y q => ?_, fun b qs q => ?_⟩ (fun b u q => ?_) hb fun b z => by simp at z
  · rw [old' b ob q]; exact un.free b ob q n hx
  · have q2 := un.tups b ys q
    rw [old b (by rw [q2]; simp)]; exact q2
  · have q2 := un.frzs b ob y q
    rw [old b (by rw [q2]; simp)]; exact q2
  · obtain ⟨more, q2⟩ := un.tbls b qs q
    exact ⟨more, by rw [old b (by rw [q2]; simp)]; exact q2⟩
  · by_cases h1 : b = S
    · subst h1
      unfold trk at q
      rw [if_pos rfl] at q
      cases q
      refine ⟨by rw [List.length_map]; exact hlen, acc.toList, c, ?_, by rw [e]⟩
      rw [hacc]
      clear hlen hrs rows same old old' hacc
      induction rs with
      | nil => exact .nil
      | cons r rs ih => exact .cons rfl ih
    · unfold trk at q
      rw [if_neg h1] at q
      cases z : (rs.zip xs).lookup b with
      | some x =>
        rw [z] at q
        cases q
        obtain ⟨i, e1, e2⟩ := zip_lookup z
        obtain ⟨l, ac, cc, e3, v⟩ := rows.2 i b x e1 e2
        exact ⟨l, ac.toList, cc, v, by rw [e3]⟩
      | none =>
        rw [z] at q
        exact (hok b u q).stay (fun _ _ _ y => y) (fun d y => by rw [old d (by rw [y]; simp)]; exact y) fun d ys y => by rw [old d (by rw [y]; simp)]; exact y
theorem trk_S {H : Hp} {S : Addr} {rs : List Addr} {xs : List (List V)} : trk H S rs xs S = some (.lst (rs.map V.ref)) := by unfold trk; rw [if_pos rfl]
theorem trk_row {H : Hp} {S : Addr} {rs : List Addr} {xs : List (List V)} {i : Nat} {r : Addr} {x : List V} (nd : rs.Nodup) (hS : S ∉ rs) (h1 : rs[i]? = some r) (h2 : xs[i]? = some x) : trk H S rs xs r = some (.lst x) := by
  unfold trk
  rw [if_neg (fun z => hS (by rw [← z]; exact List.mem_of_getElem? h1)), lookup_zip nd h1 h2]
theorem trk_ex {H : Hp} {S : Addr} {rs : List Addr} {xs : List (List V)} (hS : H S = none) (h : ∀ r ∈ rs, H r = none) : Ex H (trk H S rs xs) := fun b o e => by
  unfold trk
  rw [if_neg (ne_of_none e hS)]
  cases q : (rs.zip xs).lookup b with
  | none => exact e
  | some x =>
    obtain ⟨i, z, _⟩ := zip_lookup q
    rw [h b (List.mem_of_getElem? z)] at e; cases e
end K21
/-! ## S28 -/
set_option Elab.async false
set_option linter.all false
set_option maxRecDepth 100000
set_option maxHeartbeats 1000000
/-! list(g). -/
namespace K21
open PySem PySem.Spec PyProof.Rows L2
open Sem (wp)
theorem code_builtin {P : Program} {w : World} {A : Around} {R : Result → Shared → Prop} {s : Shared} {id : String} {args : Args} {b : Builtin} (hb : entryFor table id = some b) (hp : plainId id = true)
    (h : RunsOn (model P w) A.in1 (b args) (fun fin s' => match fin with | .done f => R (.ok f) s' | .again c' => c'.quiet = true ∧ CodeOn (model P w) A c' R s') (fun e s' => R (.error e) s') s) : CodeOn (model P w) A (.builtin id args) R s := by
  refine code_tree ?_
  show RunsOn _ _ (match entryFor table id with | some b => b args | none => unsupported ((withoutEnding? id "#data").getD id)) _ _ s
  rw [hb, Around.under_plainId hp]
  exact h
section
variable {P : Program} {w : World} {A : Around} {outer : List Env} {H : Hp} {sc : Shared} {a S : Addr} {g : Nat} {R : Result → Shared → Prop}
theorem w_drain (hh : A.handled = none) (hd : A.depth < recursionLimit) (hSa : S ≠ a) (hSc : S ≠ cStatics) (all : List (List V)) (hlen : all.length ≤ sizeLine)
    (hend : ∀ W Pn s0 s1 h' acc c rs, GFin P w outer [] H sc W Pn s0 s1 → (∀ b o, s1.heap.get? b = some o → h'.get? b = some o) → S ∈ W → (∀ r ∈ rs, r ∈ Pn ∧ sc.heap.get? r = none) → rs.Nodup → S ∉ rs → s0.heap.get? S = some (lstObj acc c) → acc.toList = rs.map Value.ref → RowsAre s0.heap rs all →
      R (.ok (.ret .none)) { s1.setGen g .finished with heap := h' }) :
    ∀ (ys done : List (List V)) (W Pn : List Addr) (s : Shared) (acc : Array Value) (c : Nat) (rs : List Addr), done ++ ys = all → Cs P w A.in1.in1 outer H sc a g ys W Pn s → S ∈ W → s.heap.get? S = some (lstObj acc c) → acc.toList = rs.map Value.ref → RowsAre s.heap rs done → (∀ r ∈ rs, r ∈ Pn ∧ sc.heap.get? r = none) → rs.Nodup → S ∉ rs →
      CodeOn (model P w) A (.builtin "list.extend.loop" ⟨[.ref S, .ref a, .none], []⟩) R s := by
  intro ys
  induction ys with
  | nil =>
    intro done W Pn s acc c rs hall C hSW hS hacc rows hrs nd hSr
    rw [List.append_nil] at hall
    subst hall
    obtain ⟨gs, hgs, hgo⟩ := C.go
    refine code_builtin F.entry_extend_loop F.plain_extend_loop ?_
    show RunsOn _ A.in1 (pyNext (.ref a) >>= _) _ _ s
    refine on_bind (on_pyNext (A := A.in1) hh C.lim hd C.obj (Int.le_refl _) hgs (Nat.lt_succ_self g) hgo (fun x zs e => by cases e) fun _ s1 h1 h2 h3 h' h4 h5 => ?_)
    exact on_pure (hend W Pn _ s1 h' acc c rs h3 h4 hSW hrs nd hSr hS hacc rows)
  | cons x ys ih =>
    intro done W Pn s acc c rs hall C hSW hS hacc rows hrs nd hSr
    obtain ⟨gs, hgs, hgo⟩ := C.go
    refine code_builtin F.entry_extend_loop F.plain_extend_loop ?_
    show RunsOn _ A.in1 (pyNext (.ref a) >>= _) _ _ s
    refine on_bind (on_pyNext (A := A.in1) hh C.lim hd C.obj (Int.le_refl _) hgs (Nat.lt_succ_self g) hgo (fun x' ys' e s1 b N gs' hgz hrow hbW hbP hIb seen wakes => ?_) fun e => by cases e)
    cases e
    have hgl : g < s1.gens.size := Nat.lt_of_lt_of_le (Array.getElem?_eq_some_iff.mp hgs).1 hgz
    have hS1 : s1.heap.get? S = some (lstObj acc c) := seen.keep S (.inl hSW) _ hS
    have hal : acc.size = rs.length := by
      have := congrArg List.length hacc
      simpa using this
    have hdl : rs.length < sizeLine := by
      have e1 := congrArg List.length hall
      rw [List.length_append, List.length_cons] at e1
      have := rows.1
      omega
    show RunsOn _ A.in1 (updateSeq S (·.push (.ref b)) >>= _) _ _ _
    have keep3 : ∀ c' o, c' ≠ S → s1.heap.get? c' = some o → (s1.heap.update S (Obj.mapSeq (·.push (.ref b)))).get? c' = some o := fun c' o hn e => (Heap.get?_update_other _ _ (Ne.symm hn)).trans e
    have nbS : b ≠ S := fun z => hbW (by rw [z]; exact hSW)
    obtain ⟨c2, hS2⟩ : ∃ c2, (s1.heap.update S (Obj.mapSeq (·.push (.ref b)))).get? S = some (lstObj (acc.push (.ref b)) c2) := ⟨_, Heap.get?_update_self _ hS1 rfl⟩
    refine on_bind (on_of (wpAny_updateSeq (s := s1.setGen g gs') hS1 rfl (on_pure ⟨plainId_quiet F.plain_extend_loop _, ?_⟩) (by rw [hal]; exact Nat.le_of_lt hdl) (by show (acc.push (.ref b)).size ≤ sizeLine + 1; rw [Array.size_push, hal]; omega)))
    refine ih (done ++ [x]) W (b :: Pn) _ (acc.push (.ref b)) c2 (rs ++ [b]) (by rw [← hall]; simp) (cs_again hgl seen wakes rfl rfl (fun _ q => q) (fun _ q => .inl q) (fun c' o hn e => keep3 c' o (fun z => hn (by rw [z]; exact hSW)) e) (fun c' hc => ?_) ?_ ?_ ?_ C.mem) hSW hS2 ?_ ?_ ?_ ?_ ?_
    · by_cases z : c' = S
      · subst z
        exact ⟨_, hS2, fun v q => by cases q⟩
      · obtain ⟨o, e, d⟩ := C.th c' hc
        exact ⟨o, keep3 c' o z (seen.keep c' (.inl hc) o e), d⟩
    · show s1.heap.objs.size ≤ (s1.heap.update S _).objs.size
      simp
    · obtain ⟨mc, hns, hnn⟩ := seen.lim
      exact ⟨mc, hns.at' fun o e => keep3 _ o (Ne.symm hSc) e, hnn⟩
    · exact (C.obj.keeps fun o e => keep3 a o (Ne.symm hSa) (seen.keep a (.inl C.mem) o e))
    · rw [Array.toList_push, hacc, List.map_append]; rfl
    · refine (rows.keep fun r hr o e => keep3 r o (fun z => ?_) (seen.keep r (.inr (hrs r hr).1) o e)).snoc ?_
      · exact hSr (by rw [← z]; exact hr)
      · obtain ⟨l, ac, cc, e, v⟩ := hrow
        exact ⟨l, ac, cc, keep3 b _ nbS e, v⟩
    · intro r hr
      rcases List.mem_append.mp hr with hr | hr
      · exact ⟨List.mem_cons_of_mem _ (hrs r hr).1, (hrs r hr).2⟩
      · rw [List.mem_singleton.mp hr]
        exact ⟨List.mem_cons_self, hIb⟩
    · rw [List.nodup_append]
      refine ⟨nd, by simp, fun r hr r' hr' => ?_⟩
      rw [List.mem_singleton.mp hr']
      exact fun z => hbP (by rw [← z]; exact (hrs r hr).1)
    · intro z
      rcases List.mem_append.mp z with z | z
      · exact hSr z
      · exact nbS (List.mem_singleton.mp z).symm
end
end K21
/-! ## S29 -/
set_option Elab.async false
set_option linter.all false
set_option maxRecDepth 100000
set_option maxHeartbeats 1000000
/-! list(g), the call. -/
namespace K21
open PySem PySem.Spec PyProof.Rows L2
open Sem (wp)
theorem code_builtin_at {P : Program} {w : World} {A : Around} {R : Result → Shared → Prop} {s : Shared} {id : String} {args : Args} {b : Builtin} (hb : entryFor table id = some b)
    (h : RunsOn (model P w) (A.under (.builtin id args)) (b args) (fun fin s' => match fin with | .done f => R (.ok f) s' | .again c' => c'.quiet = true ∧ CodeOn (model P w) A c' R s') (fun e s' => R (.error e) s') s) : CodeOn (model P w) A (.builtin id args) R s := by
  refine code_tree ?_
  show RunsOn _ _ (match entryFor table id with | some b => b args | none => unsupported ((withoutEnding? id "#data").getD id)) _ _ s
  rw [hb]
  exact h
section
variable {P : Program} {w : World} {A : Around}
theorem on_callList {s : Shared} {u : Value} {Q : Value → Shared → Prop} {E : Value → Shared → Prop}
    (h : RunsOn (model P w) A.in1.in1 (Builtin.«list.__init__» ⟨[.ref s.heap.objs.size, u], []⟩) (fun fin s' => match fin with
      | .done f => f = .ret .none ∧ Q (.ref s.heap.objs.size) s'
      | .again c' => c'.quiet = true ∧ CodeOn (model P w) A.in1 c' (fun r s' => r = .ok (.ret .none) ∧ Q (.ref s.heap.objs.size) s') s') NoE { s with heap := s.heap.push { cls := .type "list", data := .seq #[] } }) :
    RunsOn (model P w) A (call (.type "list") [u]) Q E s := by
  have hS : (s.heap.push { cls := .type "list", data := .seq #[] }).get? s.heap.objs.size = some { cls := .type "list", data := .seq #[] } := Heap.get?_push_size _ rfl
  obtain ⟨c, tl, hmro⟩ := F.called_list.mro
  refine on_call (code_tree ?_)
  show RunsOn _ _ (callAny (.type "list") _) _ _ _
  refine on_pure ⟨Code.quiet_builtin _ (by decide +kernel), code_builtin_at F.entry_type_call ?_⟩
  rw [Around.under_plain (weight_type_call_type "list" [u] []) rfl]
  unfold Builtin.«type.__call__»
  dsimp only
  rw [if_neg (by rw [F.called_list.notType]; exact Bool.false_ne_true)]
  simp only [F.called_list.canCreate, F.typeCall_list_1, hmro, F.called_list.made]
  rw [if_neg Bool.false_ne_true]
  refine on_bind (on_pure ?_)
  refine on_bind (on_pure ?_)
  rw [if_neg (by simp)]
  refine on_bind (on_pure ?_)
  dsimp only
  refine on_bind (on_pure ?_)
  refine on_bind (on_hold (on_call (code_mono (code_of (code_list_new u (Q₁ := fun obj s₁ => obj = .ref s.heap.objs.size ∧ s₁ = { s with heap := s.heap.push { cls := .type "list", data := .seq #[] } }) (E := NoE) ⟨rfl, rfl⟩)) fun r s1 hr => ?_)))
  cases r with
  | error e => exact hr.elim
  | ok fl =>
    cases fl with
    | next => exact hr.elim
    | brk => exact hr.elim
    | cont => exact hr.elim
    | ret obj =>
      obtain ⟨rfl, rfl⟩ := (show obj = .ref s.heap.objs.size ∧ s1 = { s with heap := s.heap.push { cls := .type "list", data := .seq #[] } } from hr)
      refine on_bind (on_of (wpAny_isInstance (T := "list") (b := true) ⟨_, hS, rfl⟩ F.called_list.sub ?_))
      rw [if_neg (by decide)]
      refine on_bind (on_hold (on_special ⟨_, hS, rfl⟩ F.called_list.init ?_))
      refine on_call (code_tree ?_)
      show RunsOn _ A.in1.in1 (do checkBuiltinCall "list.__init__" ⟨[.ref s.heap.objs.size, u], []⟩; again (.builtin "list.__init__" ⟨[.ref s.heap.objs.size, u], []⟩)) _ _ _
      refine on_bind (on_of (F.called_list.init.check _ _ _ _ _ _ _ _ ⟨_, hS, rfl⟩ (F.args_list_init_2 _ _) ?_))
      refine on_pure ⟨plainId_quiet F.called_list.init.plain _, code_builtin F.entry_list_init F.called_list.init.plain ?_⟩
      refine on_mono h (fun fin s' hf => ?_) fun _ _ q => q.elim
      cases fin with
      | done f =>
        obtain ⟨rfl, q⟩ := hf
        dsimp only
        rw [if_neg (by decide)]
        exact on_pure q
      | again c' =>
        refine ⟨hf.1, code_mono hf.2 fun r s2 hr => ?_⟩
        obtain ⟨rfl, q⟩ := hr
        dsimp only
        rw [if_neg (by decide)]
        exact on_pure q
end
end K21
/-! ## S30 -/
set_option Elab.async false
set_option linter.all false
set_option maxRecDepth 100000
set_option maxHeartbeats 1000000
/-! list(g). -/
namespace K21
open PySem PySem.Spec PyProof.Rows L2
open Sem (wp)
/-- all is handed out: the rows at rs, their list at S -/
structure Rowed (P : Program) (w : World) (outer : List Env) (H : Hp) (sc : Shared) (xs : List (List V)) (S : Addr) (s : Shared) : Prop where
  ex : ∃ (H' : Hp) (rs : List Addr) (acc : Array Value) (c : Nat), s.os = sc.os ∧ AllBare s.gens ∧ Un (frs outer) [] H H' sc.heap s.heap ∧ HOk P w H' s.heap ∧ Ex H H' ∧ sc.heap.get? S = none ∧ H' S = none ∧ s.heap.get? S = some (lstObj acc c) ∧ acc.toList = rs.map Value.ref ∧
    (∀ r ∈ rs, sc.heap.get? r = none ∧ H' r = none) ∧ RowsAre s.heap rs xs ∧ rs.Nodup ∧ S ∉ rs
theorem Rowed.inv {X : Cx} {pins : List (Addr × Obj)} {σ : L2.St} {H : Hp} {sc s : Shared} {xs : List (List V)} {S : Addr} (I : Inv X pins σ H sc) (h : Rowed X.prog X.w X.stack H sc xs S s) (hl : xs.length ≤ sizeLine) :
    ∃ (H' : Hp) (rs : List Addr), Inv X pins σ H' s ∧ Ex H H' ∧ H' S = some (.lst (rs.map V.ref)) ∧ rs.length = xs.length ∧ ∀ (i : Nat) r x, rs[i]? = some r → xs[i]? = some x → H' r = some (.lst x) := by
  obtain ⟨H', rs, acc, c, f1, f2, f3, f4, f5, f6, f7, f8, f9, f10, f11, f12, f13⟩ := h.ex
  refine ⟨trk H' S rs xs, rs, inv_trk I f1 f2 f3 f4 f6 f7 f8 f9 (by rw [f11.1]; exact hl) f10 f11, fun b o e => trk_ex f7 (fun r hr => (f10 r hr).2) b o (f5 b o e), trk_S, f11.1, fun i r x e1 e2 => trk_row f12 f13 e1 e2⟩
section
variable {P : Program} {w : World} {A : Around} {outer : List Env} {H : Hp} {sc s : Shared} {k : Nat} {xs : List (List V)} {u : Value}
theorem on_listGen {Q : Value → Shared → Prop} {E : Value → Shared → Prop} (hr : Room (k + 3) A) (hf : A.frames = some outer) (hm : Made P w k outer H sc [] xs u s) (hl : xs.length ≤ sizeLine) (hQ : ∀ S s', Rowed P w outer H sc xs S s' → Q (.ref S) s') :
    RunsOn (model P w) A (call (.type "list") [u]) Q E s := by
  have hrk : Room k A.in1.in1.in1 := by
    refine ⟨hr.hd, ?_, ?_⟩
    · have := hr.dp
      show A.depth + 3 * k + 5 < _
      omega
    · have := hr.un
      show A.units + 1 + 1 + 1 + 16 * k + 200 < _
      omega
  obtain ⟨a, g, rfl, ha, hgen, hos, hkp, hsz, hlim, first⟩ := cs_first hm hrk hf
  have hSa : s.heap.objs.size ≠ a := Nat.ne_of_gt hgen.lt
  have hcl : cStatics < s.heap.objs.size := let ⟨_, hn, _⟩ := hlim; hn.lt
  have hSc : s.heap.objs.size ≠ cStatics := Nat.ne_of_gt hcl
  have scS : sc.heap.get? s.heap.objs.size = none := by
    cases e : sc.heap.get? s.heap.objs.size with
    | none => rfl
    | some o => exact absurd (Nat.lt_of_lt_of_le (Heap.lt_size e) hsz) (Nat.lt_irrefl _)
  refine on_callList ?_
  have hS : (s.heap.push { cls := .type "list", data := .seq #[] }).get? s.heap.objs.size = some { cls := .type "list", data := .seq #[] } := Heap.get?_push_size _ rfl
  show RunsOn _ A.in1.in1 (do let old ← Builtin.List.listItems (.ref s.heap.objs.size); Builtin.List.listUpdate (.ref s.heap.objs.size) (fun _ => #[]); letGo old.toList.reverse; Builtin.List.listExtendWith (.ref s.heap.objs.size) (.ref a) .none) _ _ _
  refine on_of (wpAny_bind ?_)
  unfold Builtin.List.listItems
  refine wpAny_bind (wpAny_seqItems hS rfl (wpAny_pure ?_))
  show wpAny _ A.in1.in1 (updateSeq s.heap.objs.size (fun _ => #[]) >>= fun _ => letGo (#[] : Array Value).toList.reverse >>= fun _ => Builtin.List.listExtendWith (.ref s.heap.objs.size) (.ref a) .none) _ _ _
  refine wpAny_bind (wpAny_updateSeq hS rfl ?_)
  have hS2 := Heap.get?_update_self (Obj.mapSeq (fun _ => (#[] : Array Value))) hS rfl
  refine wpAny_bind (wpAny_letGo ?_)
  unfold Builtin.List.listExtendWith
  have up : ∀ (h : Heap) (f : Obj → Obj), (∀ b o, s.heap.get? b = some o → h.get? b = some o) → ∀ b o, s.heap.get? b = some o → (h.update s.heap.objs.size f).get? b = some o := fun h f q b o e =>
    (Heap.get?_update_other _ _ (Ne.symm (Nat.ne_of_lt (Heap.lt_size e)))).trans (q b o e)
  have k1 : ∀ b o, s.heap.get? b = some o → (s.heap.push { cls := .type "list", data := .seq #[] }).get? b = some o := fun b o e => Heap.get?_push_of_some _ e
  have k2 := up _ (Obj.mapSeq (fun _ => (#[] : Array Value))) k1
  have gty : ∀ {h : Heap}, (∀ b o, s.heap.get? b = some o → h.get? b = some o) → GenN h a g 0 := fun {h} q => hgen.keeps fun o e => q a o e
  refine wpAny_bind (wpAny_typeOf (GenN.ty (s := { s with heap := _ }) (gty k2)) ?_)
  have h1 : Builtin.List.listSameRef (.ref s.heap.objs.size) (.ref a) = false := by simp [Builtin.List.listSameRef, hSa]
  have h2 : (Value.type "generator" == Value.type "list") = false := by decide
  have h3 : (Value.type "generator" == Value.type "tuple") = false := by decide
  simp only [h1, h2, h3, Bool.or_false, Bool.false_eq_true, if_false]
  refine wpAny_bind (iter_genN (s := { s with heap := _ }) (gty k2) ?_)
  refine wpAny_bind (wpAny_holding ?_)
  unfold Builtin.List.listLengthHint
  refine wpAny_bind (wpAny_specialOf (GenN.ty (s := { s with heap := _ }) (gty k2)) F.gen_no_len ?_)
  show wpAny _ A.in1.in1 (specialOf (Value.ref a) (Str.ofString "__length_hint__") >>= _) _ _ _
  refine wpAny_bind (wpAny_specialOf (GenN.ty (s := { s with heap := _ }) (gty k2)) F.gen_no_hint ?_)
  refine wpAny_pure ?_
  show wpAny _ A.in1.in1 (rule "list.extend.makes-room" >>= fun _ => Builtin.List.listTouch (.ref s.heap.objs.size) >>= fun _ =>
    again (.builtin "list.extend.loop" ⟨[.ref s.heap.objs.size, .ref a, .none], []⟩)) _ _ _
  refine wpAny_bind (wpAny_rule ?_)
  refine wpAny_bind ?_
  show wpAny _ A.in1.in1 (updateSeq s.heap.objs.size (·.push .none) >>= fun _ => updateSeq s.heap.objs.size (·.pop)) _ _ _
  refine wpAny_bind (wpAny_updateSeq hS2 rfl ?_)
  have hS3 := Heap.get?_update_self (Obj.mapSeq (·.push Value.none)) hS2 rfl
  refine wpAny_updateSeq (hz := by seq_fits) hS3 rfl ?_
  have hS4 := Heap.get?_update_self (Obj.mapSeq (·.pop)) hS3 rfl
  have k4 := up _ (Obj.mapSeq (·.pop)) (up _ (Obj.mapSeq (·.push Value.none)) k2)
  refine wpAny_pure ⟨plainId_quiet F.plain_extend_loop _, ?_⟩
  refine w_drain (P := P) (w := w) (outer := outer) (H := H) (sc := sc) (A := A.in1) (g := g) hr.hd (by have := hr.dp; show A.depth < _; omega) hSa hSc xs hl ?_ xs [] [s.heap.objs.size, a] [] _ #[] _ [] rfl (first [s.heap.objs.size, a] _ rfl rfl (by simp) ?_ (fun b o hb e => k4 b o e) (gty k4) (hlim.keeps k4)) (by simp) hS4 rfl ⟨rfl, fun i r x h => by simp at h⟩ (fun r hr => by simp at hr) .nil (by simp)
  · intro W Pn s0 s1 h' acc c rs hF hk hSW hrs nd hSr e1 e2 e3
    refine ⟨rfl, hQ _ _ ?_⟩
    obtain ⟨H', f1, f2, f3, f4, f5, f6, f7, f8⟩ := hF
    have atS := f7 _ hSW
    have atP : ∀ r ∈ rs, H' r = none ∧ ∀ o, s0.heap.get? r = some o → h'.get? r = some o := fun r hr => by
      obtain ⟨_, _, q, o, q2, q3, _⟩ := f8 r (hrs r hr).1
      refine ⟨q, fun o' e => ?_⟩
      rw [q2] at e; cases e
      exact hk r o q3
    refine ⟨H', rs, acc, c, f1, allBare_setGen f2 rfl, f3.trans (Un.kept hk), f4.kept hk, f5, scS, atS.1, ?_, e2, fun r hr => ⟨(hrs r hr).2, (atP r hr).1⟩, e3.keep fun r hr o e => (atP r hr).2 o e, nd, hSr⟩
    obtain ⟨_, o, q2, q3⟩ := atS
    rw [e1] at q2; cases q2
    exact hk _ _ q3
  · intro b hb
    have hb' : b = s.heap.objs.size ∨ b = a := by simpa using hb
    rcases hb' with rfl | rfl
    · exact ⟨.inl (Nat.le_refl _), _, hS4, fun v q => by cases q⟩
    · obtain ⟨o, e1, _, d⟩ := hgen.num
      exact ⟨.inr rfl, o, k4 _ o e1, d⟩
end
/-- list(g), g the call of a generator def -/
def tListW (tg : TMade) : TE := fun σ H Q => tg σ H fun xs H1 => xs.length ≤ sizeLine ∧ ∀ (S : Addr) (H2 : Hp) (rs : List Addr), Ex H1 H2 → H2 S = some (.lst (rs.map V.ref)) → rs.length = xs.length → (∀ (i : Nat) r x, rs[i]? = some r → xs[i]? = some x → H2 r = some (.lst x)) → Q (.ref S) H2
theorem ope_listW {X : Cx} {k j : Nat} {e : Expr} {tg : TMade} {p pos : Pos} (hx : NoX X) (hm : PMade X k e tg) (hr : Room j X.A) (hk : k + 3 ≤ j) (hg : Gl X "list") (hmg : X.mg "list" = none) (he : starEach [e] X.env = (false, eval e X.env) :: starEach [] X.env := by rfl) :
    OPE X (.Call (.Name "list" p) [e] [] pos) (tListW tg) := by
  refine ⟨fun pins s σ H Q I h => ?_⟩
  rw [arm_eval_Call_Name']
  refine on_bind (on_calm hx (ld_blt I hg hmg boot_list ?_))
  rw [he]
  unfold callWith
  have pre : wpAny (model X.prog X.w) X.A (evalArgs (.type "list") true (backTo pos ((false, eval e X.env) :: starEach [] X.env)) (backToKw pos (keywordEach [] X.env))) (fun a s1 => ∃ u H1 sc xs, a = ⟨[u], []⟩ ∧ Inv X pins σ H1 sc ∧ Made X.prog X.w k X.stack H1 sc [] xs u s1 ∧ xs.length ≤ sizeLine ∧ ∀ (S : Addr) (H2 : Hp) (rs : List Addr), Ex H1 H2 → H2 S = some (.lst (rs.map V.ref)) → rs.length = xs.length → (∀ (i : Nat) r x, rs[i]? = some r → xs[i]? = some x → H2 r = some (.lst x)) → Q (.ref S) H2) X.xe s := by
    refine Calls.evalArgs_plain (Calls.spliced_cons (wpAny_mono (hm.run pins s σ H _ [] I (fun b hb => by simp at hb) h) (fun u s1 ⟨H1, sc, xs, I1, hM, _, hl, q⟩ => ?_) fun _ _ z => z))
    exact Calls.spliced_nil ⟨u, H1, sc, xs, rfl, I1, hM, hl, q⟩
  refine on_bind (on_hold (on_mono (on_calm hx pre) (fun a s1 ⟨u, H1, sc, xs, ea, I1, hM, hl, q⟩ => on_stand ?_) fun _ _ z => z))
  subst ea
  have hst : (((backTo pos ((false, eval e X.env) :: starEach [] X.env)).any fun x => x.1) || (backToKw pos (keywordEach [] X.env)).any fun x => x.1.isNone) = false := by rfl
  simp only [hst]
  refine on_bind (on_of (wpAny_pure ?_))
  refine on_bind (on_mono (on_listGen (E := NoE) (hr.mono hk) I1.ok.frames hM hl fun S s2 hR => ?_) (fun r s2 (hr2 : EP X pins σ Q r s2) => on_bind (on_of (wpAny_holding (wpAny_point (on_pure hr2))))) fun _ _ z => z)
  obtain ⟨H', rs, J, ex, eS, hlr, hrow⟩ := hR.inv I1 hl
  exact ⟨.ref S, H', J, rfl, q S H' rs ex eS hlr hrow⟩
end K21
/-! ## S31 -/
set_option Elab.async false
set_option linter.all false
set_option maxRecDepth 100000
set_option maxHeartbeats 1000000
/-! [x[::-1] for x in g]. -/
namespace K21
open PySem PySem.Spec PyProof.Rows L2
open Sem (wp)
abbrev revSl (x : Str) (px ps p1 p2 p3 : Pos) (k : Nat) : Expr := .Subscript (.Name x px) (.Slice none none (some (.UnaryOp .USub (.Constant (.int 1) k p1) p2)) p3) ps
section
variable {P : Program} {w : World} {A : Around} {s : Shared} {env : Env} {x : Str} {px ps p1 p2 p3 : Pos} {k : Nat} {m : Str → Option Value}
/-- x[::-1], x a local that holds a list -/
theorem low_rev {E : Value → Shared → Prop} {Q : Value → Shared → Prop} {b : Addr} {acc : Array Value} {c : Nat} (hk : env.scope.kind = .function) (hl : env.kindOf x = some .local) (hn : s.heap.Ns env.locals m) (hv : m x = some (.ref b)) (hb : s.heap.get? b = some (lstObj acc c)) (hsz : acc.size ≤ sizeLine) (hd : (x == ("__debug__" : Str)) = false)
    (hQ : ∀ (h' : Heap) (tk : Nat) (r : Addr), s.heap.objs.size ≤ r → (∀ b o, s.heap.get? b = some o → h'.get? b = some o) → s.heap.objs.size ≤ h'.objs.size → h'.get? r = some (lstObj acc.toList.reverse.toArray 0) → Q (.ref r) { s with heap := h', toks := tk }) :
    wpAny (model P w) A (eval (revSl x px ps p1 p2 p3 k) env) Q E s := by
  refine Subscript_ (wpAny_Name (wpAny_loadName_local hk hl hn hv ?_) hd)
  refine wpAny_Slice ?_
  rw [evalPart_none, evalPart_some]
  refine wpAny_pure (wpAny_pure (UnaryOp_ (wpAny_Constant_int (neg_int ?_))))
  generalize hs5 : ({ s with toks := s.toks + 1 + 1, heap := s.heap.push { cls := .type "slice", data := .fields #[.none, .none, .int (-1) (s.toks + 1)] } } : Shared) = s5
  have k5 : ∀ b o, s.heap.get? b = some o → s5.heap.get? b = some o := fun b o e => by rw [← hs5]; exact Heap.get?_push_of_some _ e
  have l5 : s5.heap.IsList b acc := ⟨_, k5 _ _ hb, rfl, c, rfl⟩
  have hsl : s5.heap.IsSliceOf s.heap.objs.size .none .none (.int (-1) (s.toks + 1)) := by rw [← hs5]; exact Heap.IsSliceOf.new _ _ _ _
  have z5 : s5.heap.objs.size = s.heap.objs.size + 1 := by rw [← hs5]; exact Heap.size_push ..
  show wpAny (model P w) A (subscriptTail (.Name x px) (.Slice none none (some (.UnaryOp .USub (.Constant (.int 1) k p1) p2)) p3) (.ref b) (.ref s.heap.objs.size)) Q E _
  refine tail_any (ops := [.ref b, .ref s.heap.objs.size]) l5.typeIs slot_list_getitem.lookup ?_ (by with_unfolding_all rfl)
  refine wpAny_getItem_list_slice l5 hsl .none .none (.int (-1) _) (by decide) ?_ hsz
  rw [PySem.W.krv_pick]
  have e := hQ (s5.heap.push (lstObj acc.toList.reverse.toArray 0)) s5.toks s5.heap.objs.size (by omega) (fun b o e => Heap.get?_push_of_some _ (k5 b o e)) (by rw [Heap.size_push]; omega) (Heap.get?_push_size _ rfl)
  rw [← hs5] at e ⊢
  exact e
theorem low_append {E : Value → Shared → Prop} {Q : Value → Shared → Prop} {D : Addr} {acc : Array Value} {c : Nat} {v : Value} (hD : s.heap.get? D = some (lstObj acc c)) (hz : acc.size < sizeLine)
    (hQ : ∀ h' c', h'.get? D = some (lstObj (acc.push v) c') → Heap.SameBut D s.heap h' → Q .none { s with heap := h' }) : wpAny (model P w) A (call (.builtin "list.append") [.ref D, v]) Q E s := by
  have hl : s.heap.IsList D acc := ⟨_, hD, rfl, c, rfl⟩
  refine wpAny_call_entry slot_list_append hl.typeIs entry_list_append ?_ (args_list_append _ _)
  show wpAny _ _ (updateSeq D (·.push v) >>= fun _ => ret .none) _ _ s
  refine wpAny_bind ?_
  exact wpAny_updateSeq hD rfl (wpAny_pure ⟨.none, rfl, hQ _ _ (Heap.get?_update_self _ hD rfl) (Heap.SameBut.update ..)⟩) (Nat.le_of_lt hz) (by show (acc.push v).size ≤ sizeLine + 1; rw [Array.size_push]; omega)
end
/-- the loop is over -/
def LcEnd (P : Program) (w : World) (outer : List Env) (H : Hp) (sc : Shared) (xs : List (List V)) (D C : Addr) (s : Shared) : Prop :=
  ∃ (H' : Hp) (rs : List Addr) (acc : Array Value) (c : Nat) (m : Str → Option Value), s.os = sc.os ∧ AllBare s.gens ∧ Un (frs outer) [] H H' sc.heap s.heap ∧ HOk P w H' s.heap ∧ Ex H H' ∧ H' D = none ∧ s.heap.get? D = some (lstObj acc c) ∧ acc.toList = rs.map Value.ref ∧
    (∀ r ∈ rs, sc.heap.get? r = none ∧ H' r = none) ∧ RowsAre s.heap rs (xs.map List.reverse) ∧ rs.Nodup ∧ D ∉ rs ∧ H' C = none ∧ C ∉ rs ∧ s.heap.Ns C m
section
variable {P : Program} {w : World} {A : Around} {outer : List Env} {H : Hp} {sc : Shared} {a D C : Addr} {g : Nat} {x : Str} {px pt ps p1 p2 p3 pos : Pos} {k : Nat} {iter : Expr} {scope : Scope} {env : Env}
theorem lc_loop (hh : A.handled = none) (hd : A.depth < recursionLimit) (hDa : D ≠ a) (hDC : D ≠ C) (hCa : C ≠ a) (hDs : D ≠ cStatics) (hCs : C ≠ cStatics) (hC : env.locals = C) (hk : env.scope.kind = .function) (hl : env.kindOf x = some .local) (hdb : (x == ("__debug__" : Str)) = false) (all : List (List V)) (hlen : all.length ≤ sizeLine) (hsc : sc.heap.objs.size ≤ D) :
    ∀ (ys done : List (List V)) (W Pn : List Addr) (s : Shared) (acc : Array Value) (c : Nat) (rs : List Addr) (m : Str → Option Value), done ++ ys = all → Cs P w A.in1 outer H sc a g ys W Pn s → D ∈ W → C ∈ W → s.heap.get? D = some (lstObj acc c) → acc.toList = rs.map Value.ref → RowsAre s.heap rs (done.map List.reverse) → (∀ r ∈ rs, r ∈ W ∧ sc.heap.get? r = none) → rs.Nodup → D ∉ rs → C ∉ rs → s.heap.Ns C m → sc.heap.objs.size ≤ s.heap.objs.size →
      CodeOn (model P w) A (.compLoop (.ListComp (revSl x px ps p1 p2 p3 k) [⟨.Name x pt, iter, [], 0⟩] scope pos) 0 (.ref a) (.ref D) env) (fun r s' => r = .ok .next ∧ LcEnd P w outer H sc all D C s') s := by
  intro ys
  induction ys with
  | nil =>
    intro done W Pn s acc c rs m hall Cz hDW hCW hDo hacc rows hrs nd hDr hCr hns hzz
    rw [List.append_nil] at hall
    subst hall
    obtain ⟨gs, hgs, hgo⟩ := Cz.go
    refine code_tree ?_
    show RunsOn _ A ((compTurn (.ListComp (revSl x px ps p1 p2 p3 k) [⟨.Name x pt, iter, [], 0⟩] scope pos) 0 (.ref a) (.ref D) env).onRaise (fun x => do noteFrame x env; theTreesLotGoes x)) _ _ s
    refine on_onRaise (on_noE ?_)
    rw [compTurn_list1]
    refine on_stand (on_bind (on_pyNext hh Cz.lim hd Cz.obj (Int.le_refl _) hgs (Nat.lt_succ_self g) hgo (fun x zs e => by cases e) fun _ s1 h1 h2 h3 h' h4 h5 => ?_))
    refine on_pure ⟨rfl, ?_⟩
    obtain ⟨H', f1, f2, f3, f4, f5, f6, f7, f8⟩ := h3
    have atW : ∀ b ∈ W, H' b = none ∧ ∀ o, s.heap.get? b = some o → h'.get? b = some o := fun b hb => by
      obtain ⟨q, o, q2, q3⟩ := f7 b hb
      refine ⟨q, fun o' e => ?_⟩
      have q2' : s.heap.get? b = some o := q2
      rw [e] at q2'; cases q2'
      exact h4 b _ q3
    exact ⟨H', rs, acc, c, m, f1, allBare_setGen f2 rfl, f3.trans (Un.kept h4), f4.kept h4, f5, (atW D hDW).1, (atW D hDW).2 _ hDo, hacc, fun r hr => ⟨(hrs r hr).2, (atW r (hrs r hr).1).1⟩, rows.keep fun r hr o e => (atW r (hrs r hr).1).2 o e, nd, hDr, (atW C hCW).1, hCr, hns.at' fun o e => (atW C hCW).2 o e⟩
  | cons y ys ih =>
    intro done W Pn s acc c rs m hall Cz hDW hCW hDo hacc rows hrs nd hDr hCr hns hzz
    obtain ⟨gs, hgs, hgo⟩ := Cz.go
    refine code_tree ?_
    show RunsOn _ A ((compTurn (.ListComp (revSl x px ps p1 p2 p3 k) [⟨.Name x pt, iter, [], 0⟩] scope pos) 0 (.ref a) (.ref D) env).onRaise (fun x => do noteFrame x env; theTreesLotGoes x)) _ _ s
    refine on_onRaise (on_noE ?_)
    rw [compTurn_list1]
    refine on_stand (on_bind (on_pyNext hh Cz.lim hd Cz.obj (Int.le_refl _) hgs (Nat.lt_succ_self g) hgo (fun x' ys' e s1 b N gs' hgz hrow hbW hbP hIb seen wakes => ?_) fun e => by cases e))
    cases e
    have hgl : g < s1.gens.size := Nat.lt_of_lt_of_le (Array.getElem?_eq_some_iff.mp hgs).1 hgz
    have hD1 : s1.heap.get? D = some (lstObj acc c) := seen.keep D (.inl hDW) _ hDo
    have hn1 : s1.heap.Ns C m := hns.at' fun o e => seen.keep C (.inl hCW) o e
    have hal : acc.size = rs.length := by
      have := congrArg List.length hacc
      simpa using this
    have hdl : rs.length < sizeLine := by
      have e1 := congrArg List.length hall
      rw [List.length_append, List.length_cons] at e1
      have := rows.1
      rw [List.length_map] at this
      omega
    obtain ⟨hyl, ac, cc, hat, hvals⟩ := hrow
    have hac : ac.size = y.length := by
      have := hvals.length
      simpa using this.symm
    have nbC : b ≠ C := fun z => hbW (by rw [z]; exact hCW)
    have nbD : b ≠ D := fun z => hbW (by rw [z]; exact hDW)
    refine on_of ?_
    refine wpAny_bind (m := letOwnedTupleGo (.Name x pt) (.ref a) (.ref b)) (wpAny_pure ?_)
    refine wpAny_bind (wpAny_assign_Name (wpAny_storeName_local (m := m) hl (by rw [hC]; exact hn1) (fun h2 hn2 sb2 => ?_) (by rw [hk]; rfl)))
    rw [hC] at hn2 sb2
    have k2 : ∀ b o, b ≠ C → s1.heap.get? b = some o → h2.get? b = some o := fun b o hb e => (sb2.2 b hb).trans e
    refine wpAny_bind (wpAny_bind (low_rev (b := b) (acc := ac) (c := cc) hk hl (by rw [hC]; exact hn2) (by simp) (k2 b _ nbC hat) (by rw [hac]; exact hyl) hdb fun h3 tk r hr k3 z3 hr3 => ?_))
    have z2 : h2.objs.size = s1.heap.objs.size := sb2.1
    have hr' : h2.objs.size ≤ r := hr
    have hz3 : h2.objs.size ≤ h3.objs.size := z3
    have k13 : ∀ b o, b ≠ C → s1.heap.get? b = some o → h3.get? b = some o := fun b o hb e => k3 b o (k2 b o hb e)
    refine wpAny_bind (low_append (k13 D _ hDC hD1) (by rw [hal]; exact hdl) fun h4 c4 hD4 sb4 => ?_)
    have k4 : ∀ b o, b ≠ D → h3.get? b = some o → h4.get? b = some o := fun b o hb e => (sb4.2 b hb).trans e
    have k14 : ∀ b o, b ≠ C → b ≠ D → s1.heap.get? b = some o → h4.get? b = some o := fun b o h1 h2 e => k4 b o h2 (k13 b o h1 e)
    have z4 : h4.objs.size = h3.objs.size := sb4.1
    have hsz4 : s1.heap.objs.size ≤ h4.objs.size := by omega
    have hrs1 : s1.heap.objs.size ≤ r := by omega
    have hn4 : h4.Ns C (fun z => if z = x then some (.ref b) else m z) := (hn2.at' fun o e => k4 C o (Ne.symm hDC) (k3 C o e))
    have newr : ∀ b o, s1.heap.get? b = some o → b ≠ r := fun b o e => Nat.ne_of_lt (Nat.lt_of_lt_of_le (Heap.lt_size e) hrs1)
    have hr4 : h4.get? r = some (lstObj ac.toList.reverse.toArray 0) := k4 r _ (fun z => newr D _ hD1 z.symm) hr3
    have hr1C : r ≠ C := by
      obtain ⟨o, es, ep, ho, _⟩ := hn1
      exact fun z => newr C o ho z.symm
    refine wpAny_pure (wpAny_pure ⟨rfl, ?_⟩)
    refine ih (done ++ [y]) (r :: W) (b :: Pn) _ (acc.push (.ref r)) c4 (rs ++ [r]) _ (by rw [← hall]; simp) (cs_again hgl seen wakes rfl rfl (fun _ q => List.mem_cons_of_mem _ q) (fun c' hc => ?_) (fun c' o hn e => ?_) (fun c' hc => ?_) hsz4 ?_ ?_ Cz.mem) (List.mem_cons_of_mem _ hDW) (List.mem_cons_of_mem _ hCW) hD4 ?_ ?_ ?_ ?_ ?_ ?_ hn4 ?_
    · rcases List.mem_cons.mp hc with rfl | hc
      · exact .inr hrs1
      · exact .inl hc
    · exact k14 c' o (fun z => hn (by rw [z]; exact List.mem_cons_of_mem _ hCW)) (fun z => hn (by rw [z]; exact List.mem_cons_of_mem _ hDW)) e
    · rcases List.mem_cons.mp hc with rfl | hc
      · exact ⟨_, hr4, fun v q => by cases q⟩
      · obtain ⟨o, e, d⟩ := Cz.th c' hc
        by_cases z1 : c' = D
        · subst z1
          exact ⟨_, hD4, fun v q => by cases q⟩
        · by_cases z2 : c' = C
          · subst z2
            obtain ⟨o', es, ep, ho', hd', _⟩ := hn4
            exact ⟨o', ho', fun v q => by rw [hd'] at q; cases q⟩
          · exact ⟨o, k14 c' o z2 z1 (seen.keep c' (.inl hc) o e), d⟩
    · obtain ⟨mc, hns', hnn⟩ := seen.lim
      exact ⟨mc, hns'.at' fun o e => k14 _ o (Ne.symm hCs) (Ne.symm hDs) e, hnn⟩
    · exact Cz.obj.keeps fun o e => k14 a o (Ne.symm hCa) (Ne.symm hDa) (seen.keep a (.inl Cz.mem) o e)
    · rw [Array.toList_push, hacc, List.map_append]; rfl
    · rw [List.map_append]
      refine (rows.keep fun r' hr' o e => ?_).snoc ⟨by rw [List.length_reverse]; exact hyl, _, 0, hr4, by simpa using hvals.reverse⟩
      exact k14 r' o (fun z => hCr (by rw [← z]; exact hr')) (fun z => hDr (by rw [← z]; exact hr')) (seen.keep r' (.inl (hrs r' hr').1) o e)
    · intro r' hr'
      rcases List.mem_append.mp hr' with hr' | hr'
      · exact ⟨List.mem_cons_of_mem _ (hrs r' hr').1, (hrs r' hr').2⟩
      · rw [List.mem_singleton.mp hr']
        refine ⟨List.mem_cons_self, ?_⟩
        cases e : sc.heap.get? r with
        | none => rfl
        | some o =>
          have h2 : s.heap.objs.size ≤ s1.heap.objs.size := seen.sz
          exact absurd (Nat.lt_of_lt_of_le (Heap.lt_size e) (Nat.le_trans hzz (Nat.le_trans h2 hrs1))) (Nat.lt_irrefl _)
    · rw [List.nodup_append]
      refine ⟨nd, by simp, fun r' hr' r2 hr2 => ?_⟩
      rw [List.mem_singleton.mp hr2]
      obtain ⟨o, e, _⟩ := Cz.th r' (hrs r' hr').1
      exact newr r' o (seen.keep r' (.inl (hrs r' hr').1) o e)
    · intro z
      rcases List.mem_append.mp z with z | z
      · exact hDr z
      · exact newr D _ hD1 (List.mem_singleton.mp z)
    · intro z
      rcases List.mem_append.mp z with z | z
      · exact hCr z
      · exact hr1C (List.mem_singleton.mp z).symm
    · have h2 : s.heap.objs.size ≤ s1.heap.objs.size := seen.sz
      exact Nat.le_trans hzz (Nat.le_trans h2 hsz4)
end
end K21
/-! ## S32 -/
set_option Elab.async false
set_option linter.all false
set_option maxRecDepth 100000
set_option maxHeartbeats 1000000
/-! y = [x[::-1] for x in g]. -/
namespace K21
open PySem PySem.Spec PyProof.Rows L2
open Sem (wp)
theorem on_run {M : Model} {A : Around} {s : Shared} {c : Code} {Q : Flow → Shared → Prop} {E : Value → Shared → Prop} (h : CodeOn M A c (fun r s' => match r with | .ok f => Q f s' | .error e => E e s') s) : RunsOn M A (run c) Q E s := by
  refine on_code (h := none) (by intro z; cases z) (code_mono h fun r s' hr => ?_)
  cases r with
  | ok f => exact on_pure hr
  | error e => exact on_raise hr
def tSetLcW (tg : TMade) (i : Nat) : TS := fun D σ H => tg σ H fun xs H1 => xs.length ≤ sizeLine ∧ ∀ (S : Addr) (H2 : Hp) (rs : List Addr), Ex H1 H2 → H2 S = some (.lst (rs.map V.ref)) → rs.length = xs.length → (∀ (j : Nat) r x, rs[j]? = some r → xs[j]? = some x → H2 r = some (.lst x.reverse)) →
  D.nx (σ.set i (some (.ref S))) H2
theorem os_setLcW {X : Cx} {k j i k0 : Nat} {iter : Expr} {tg : TMade} {x y : Str} {px pt ps p1 p2 p3 py pos spos : Pos} {scope : Scope} (hx : NoX X) (hN : X.N.Nodup) (hm : PMade X k iter tg) (hr : Room j X.A) (hk : k + 1 ≤ j) (hy : X.N[i]? = some y) (hyl : X.env.scope.names.lookup y = some .local)
    (hsw : swapsWith (.ListComp (revSl x px ps p1 p2 p3 k0) [⟨.Name x pt, iter, [], 0⟩] scope pos) (some (.Name y py)) spos.line X.env = pure true) (hsk : scope.kind = .function) (hsn : scope.names = [((".0" : Str), NameKind.local), (x, NameKind.local)]) (hx0 : (x != (".0" : Str)) = true) (hdb : (x == ("__debug__" : Str)) = false)
    (hs : ∀ v, foldedSetIterable iter X.env v = pure v := by intro _; rfl) :
    OPS X (.Assign [.Name y py] (.ListComp (revSl x px ps p1 p2 p3 k0) [⟨.Name x pt, iter, [], 0⟩] scope pos) spos) (tSetLcW tg i) := by
  refine ⟨fun pins s σ H D I h => ?_⟩
  rw [exec_Assign_Name_used _ _ _ _ hsw]
  refine on_stand (on_bind ?_)
  show RunsOn _ X.A (do let _ ← comprehension (.ListComp (revSl x px ps p1 p2 p3 k0) [⟨.Name x pt, iter, [], 0⟩] scope pos) scope X.env (firstIterPos [⟨.Name x pt, iter, [], 0⟩] pos) (newList []) false (eval iter X.env) (some (assign (.Name y py) X.env))) _ _ s
  have hfree : ∀ z ∈ scope.names, z.2 ≠ .free := fun z hz => by
    rw [hsn] at hz
    rcases List.mem_cons.mp hz with rfl | hz
    · simp
    · rw [List.mem_singleton.mp hz]; simp
  refine on_bind (on_mono (Q := fun _ s' => SP X pins D .next s') (E := NoE) ?_ (fun _ s' q => on_pure (on_pure q)) fun _ _ q => q)
  unfold comprehension
  rw [closureFor_none hfree]
  refine on_bind (on_mono (on_calm hx (hm.run pins s σ H _ [] I (fun b hb => by simp at hb) h)) (fun u s1 ⟨H1, sc, xs, I1, hM, _, hl, q⟩ => ?_) fun _ _ z => z)
  refine on_stand ?_
  have hcl : clausesOf (.ListComp (revSl x px ps p1 p2 p3 k0) [⟨.Name x pt, iter, [], 0⟩] scope pos) = [⟨.Name x pt, iter, [], 0⟩] := rfl
  rw [hcl]
  dsimp only
  rw [hs u]
  refine on_bind (on_pure ?_)
  have hroom : Room k X.A.in1 := (hr.mono hk).in1
  obtain ⟨a, g, rfl, ha, hgen, hos, hkp, hsz, hlim, first⟩ := cs_first hM hroom I1.ok.frames
  refine on_bind (on_hold (on_of (iter_genN hgen ?_)))
  rw [if_pos (show (some (assign (.Name y py) X.env)).isSome = true from rfl)]
  refine on_stand (on_bind (on_of (wpAny_newObj_type ?_ (by show 0 ≤ sizeLine; decide))))
  refine on_bind (on_pure ?_)
  have hpc : ∀ h : Heap, pushCells h scope.names = h := fun h => by rw [hsn]; rfl
  generalize hD : s1.heap.objs.size = Dl
  generalize hs2 : ({ s1 with heap := s1.heap.push { cls := .type "list", data := .seq ([] : List Value).toArray } } : Shared) = s2
  have e2 : s2.heap.objs.size = Dl + 1 := by rw [← hs2, ← hD]; exact Heap.size_push ..
  refine on_bind (on_mono (Q := fun ce s' => ce.locals = Dl + 1 ∧ s' = { s2 with heap := s2.heap.push { cls := .type "dict", data := .dict #[] } }) (E := NoE) (on_of (newEnv_comp ⟨e2, by rw [hpc]⟩)) (fun ce s3 ⟨hcL, hs3⟩ => ?_) fun _ _ z => z.elim)
  have k2 : ∀ b o, s1.heap.get? b = some o → s2.heap.get? b = some o := fun b o e => by rw [← hs2]; exact Heap.get?_push_of_some _ e
  have hD2 : s2.heap.get? Dl = some (lstObj #[] 0) := by rw [← hs2, ← hD]; exact Heap.get?_push_size _ rfl
  have k3 : ∀ b o, s2.heap.get? b = some o → s3.heap.get? b = some o := fun b o e => by rw [hs3]; exact Heap.get?_push_of_some _ e
  have hns : s3.heap.Ns (Dl + 1) (fun _ => none) := by
    rw [hs3, ← e2]; exact Heap.Ns.new ..
  have z3 : s3.heap.objs.size = Dl + 2 := by rw [hs3]; show (s2.heap.push _).objs.size = _; rw [Heap.size_push, e2]
  have hgens : s3.gens = s1.gens := by rw [hs3, ← hs2]
  have hos3 : s3.os = s1.os := by rw [hs3, ← hs2]
  have k13 : ∀ b o, s1.heap.get? b = some o → s3.heap.get? b = some o := fun b o e => k3 b o (k2 b o e)
  have haD : a < Dl := by rw [← hD]; exact hgen.lt
  have hcs : cStatics < Dl := by rw [← hD]; exact (let ⟨_, hn, _⟩ := hlim; hn.lt)
  have hscD : sc.heap.objs.size ≤ Dl := by rw [← hD]; exact hsz
  have hlx : scope.names.lookup x = some .local := by
    have : (x == (".0" : Str)) = false := by simpa [bne] using hx0
    rw [hsn, List.lookup_cons, this, List.lookup_cons]
    simp
  generalize henv : ({ scope := { kind := scope.kind, names := scope.names.map fun z => if (z.2 == NameKind.free && X.env.scope.kind == ScopeKind.function && X.env.kindOf z.1 == some NameKind.cell) = true then (z.1, NameKind.cell) else (z.1, z.2), isGenerator := scope.isGenerator, isCoroutine := scope.isCoroutine, more := scope.more }, locals := ce.locals, globals := ce.globals, cells := ce.cells, qual := ce.qual, func := ce.func, code := ce.code, frame := ce.frame, builtins := ce.builtins } : Env) = env
  have hEL : env.locals = Dl + 1 := by rw [← henv]; exact hcL
  have hEk : env.scope.kind = .function := by rw [← henv]; exact hsk
  have hEx : env.kindOf x = some .local := by rw [← henv]; exact lookup_relabel_local hlx
  have hEn : ∀ z ∈ scope.names, z.2 = .local → env.kindOf z.1 = some .local := fun z hz hz2 => by
    rw [← henv]
    refine lookup_relabel_local ?_
    rw [hsn] at hz ⊢
    rcases List.mem_cons.mp hz with rfl | hz
    · simp
    · rw [List.mem_singleton.mp hz, ← hsn]; exact hlx
  have hC : Cs X.prog X.w X.A.in1 X.stack H1 sc a g xs [Dl + 1, Dl, a] [] s3 := by
    refine first [Dl + 1, Dl, a] s3 hos3 hgens (by simp) (fun b hb => ?_) (fun b o hb e => k13 b o e) (hgen.keeps fun o e => k13 a o e) (hlim.keeps k13)
    have hb' : b = Dl + 1 ∨ b = Dl ∨ b = a := by simpa using hb
    rcases hb' with rfl | rfl | rfl
    · refine ⟨.inl (by rw [hD]; exact Nat.le_succ _), ?_⟩
      obtain ⟨o, es, ep, ho, hd', _⟩ := hns
      exact ⟨o, ho, fun v q => by rw [hd'] at q; cases q⟩
    · exact ⟨.inl (Nat.le_of_eq hD), _, k3 _ _ hD2, fun v q => by cases q⟩
    · obtain ⟨o, e1, _, d⟩ := hgen.num
      exact ⟨.inr rfl, o, k13 _ o e1, d⟩
  have loop : CodeOn (model X.prog X.w) X.A (.compLoop (.ListComp (revSl x px ps p1 p2 p3 k0) [⟨.Name x pt, iter, [], 0⟩] scope pos) 0 (.ref a) (.ref Dl) env) (fun r s' => r = .ok .next ∧ LcEnd X.prog X.w X.stack H1 sc xs Dl (Dl + 1) s') s3 :=
    lc_loop (C := Dl + 1) hr.hd hr.depth (Nat.ne_of_gt haD) (Nat.ne_of_lt (Nat.lt_succ_self _)) (Nat.ne_of_gt (Nat.lt_succ_of_lt haD)) (Nat.ne_of_gt hcs) (Nat.ne_of_gt (Nat.lt_succ_of_lt hcs)) hEL hEk hEx hdb xs hl hscD xs [] [Dl + 1, Dl, a] [] s3 #[] 0 [] _ rfl hC (by simp) (by simp) (k3 _ _ hD2) rfl ⟨rfl, fun i r x h => by simp at h⟩ (fun r hr => by simp at hr) .nil (by simp) (by simp) hns (by rw [z3]; exact Nat.le_succ_of_le (Nat.le_succ_of_le hscD))
  have start_ : CodeOn (model X.prog X.w) X.A (.compStart (.ListComp (revSl x px ps p1 p2 p3 k0) [⟨.Name x pt, iter, [], 0⟩] scope pos) 0 (.ref a) (.ref Dl) env) (fun r s' => r = .ok .next ∧ LcEnd X.prog X.w X.stack H1 sc xs Dl (Dl + 1) s') s3 := by
    refine code_tree ?_
    show RunsOn _ X.A ((compStart (.ListComp (revSl x px ps p1 p2 p3 k0) [⟨.Name x pt, iter, [], 0⟩] scope pos) 0 (.ref a) (.ref Dl) env).onRaise (fun x => do noteFrame x env; standAt theWindowsPlace)) _ _ s3
    refine on_onRaise (on_noE (on_of ?_))
    unfold compStart
    show wpAny _ _ (ask >>= _) _ _ s3
    refine wpAny_bind (wpAny_askSetting (wpAny_ite ?_))
    split
    · first
        | exact wpAny_bind (wpAny_pure (wpAny_pure ⟨rfl, loop⟩))
        | exact wpAny_pure ⟨rfl, loop⟩
    · have it := iter_genN (P := X.prog) (w := X.w) (A := X.A) (E := NoE) (Q := fun v s' => v = .ref a ∧ s' = s3) (hgen.keeps fun o e => k13 a o e) ⟨rfl, rfl⟩
      refine wpAny_bind (wpAny_rule ?_)
      first
        | (refine wpAny_bind (wpAny_standAt (wpAny_bind (wpAny_mono it (fun v s' ⟨e1, e2⟩ => ?_) fun _ _ z => z))); subst e1; subst e2; exact wpAny_pure ⟨rfl, loop⟩)
        | (show wpAny _ _ (standAt iter.pos >>= _) _ _ s3; refine wpAny_bind (wpAny_standAt (wpAny_bind (wpAny_mono it (fun v s' ⟨e1, e2⟩ => ?_) fun _ _ z => z))); subst e1; subst e2; exact wpAny_pure ⟨rfl, loop⟩)
  refine on_hold (on_bind (on_attempt (on_hold (on_run (code_mono start_ fun r s4 hr4 => ?_)))))
  obtain ⟨rfl, H', rs, acc, c, m, f1, f2, f3, f4, f5, f6, f7, f8, f9, f10, f11, f12, f13, f14, f15⟩ := hr4
  dsimp only
  have scD : sc.heap.get? Dl = none := by
    cases e : sc.heap.get? Dl with
    | none => rfl
    | some o => exact absurd (Nat.lt_of_lt_of_le (Heap.lt_size e) hscD) (Nat.lt_irrefl _)
  have lrs : rs.length = xs.length := by rw [f10.1, List.length_map]
  have I4 : Inv X pins σ (trk H' Dl rs (xs.map List.reverse)) s4 := inv_trk I1 f1 f2 f3 f4 scD f6 f7 f8 (by rw [lrs]; exact hl) f9 f10
  have hCn : trk H' Dl rs (xs.map List.reverse) (Dl + 1) = none := by
    unfold trk
    rw [if_neg (Nat.succ_ne_self _)]
    cases z : (rs.zip (xs.map List.reverse)).lookup (Dl + 1) with
    | none => exact f13
    | some v =>
      obtain ⟨i', q1, _⟩ := zip_lookup z
      exact absurd (List.mem_of_getElem? q1) f14
  have fC : FpOk X pins (trk H' Dl rs (xs.map List.reverse)) (Dl + 1) := I1.fpOk (Nat.le_succ_of_le hscD) hCn
  have qq := q Dl (trk H' Dl rs (xs.map List.reverse)) rs (fun b o e => trk_ex f6 (fun r hr => (f9 r hr).2) b o (f5 b o e)) trk_S lrs (fun j r x' e1 e2 => trk_row f11 f12 e1 (by rw [List.getElem?_map, e2]; rfl))
  refine on_of (wpAny_bind (wpAny_rule (wpAny_bind (wpAny_holding ?_))))
  refine wpAny_assign_Name (store_ok2 (v := V.ref Dl) I4 hN hy (.inl hyl) rfl (fun s5 I5 ⟨a5, sb, ha5⟩ => ?_) (.inr hyl))
  obtain ⟨g0, g1, g2, g3, g4, g5⟩ := fC
  have haC : Dl + 1 ≠ a5 := by
    rcases ha5 with z | z
    · rw [z]; exact g1
    · exact fun e => g4 y a5 z e.symm
  refine wpAny_bind (wpAny_comp_letGo (cenv := env) hEk _ s5 m (fun z hz hz2 => ?_) (by rw [hEL]; exact f15.sameBut sb haC) fun h6 m6 hn6 sb6 => ?_)
  · have hz' : z ∈ scope.names := by
      rcases List.mem_append.mp hz with hz | hz
      · exact (List.mem_filter.mp (List.mem_reverse.mp (List.mem_of_mem_drop hz))).1
      · exact (List.mem_filter.mp (List.mem_reverse.mp (List.mem_of_mem_take hz))).1
    exact hEn z hz' hz2
  · rw [hEL] at sb6
    exact wpAny_pure ⟨_, _, I5.turned (t' := s5.toks) (fun b o hb e => (sb6.2 b hb).trans e) g0 g1 g3 g4 g5, qq⟩
end K21
/-! ## S33 -/
set_option Elab.async false
set_option linter.all false
set_option maxRecDepth 100000
set_option maxHeartbeats 1000000
/-! Generator defs under their names. -/
namespace K21
open PySem PySem.Spec PyProof.Rows L2
section
variable {P : Program} {w : World} {K : PySem.W.Frag} {mg : Str → Option Value} {base : Heap}
structure GCal (P : Program) (w : World) (K : PySem.W.Frag) (mg : Str → Option Value) (base : Heap) (k : Nat) (x : Str) (sp : SpI) : Prop where
  ex : ∃ (f : Addr) (fd : FuncData) (ps : List Str), GDef P w K mg base k f fd ps sp ∧ mg x = some (.ref f) ∧ PySem.W.keepIn K (.ref f) = true ∧ L2.Binds K fd ps []
structure GCan (P : Program) (w : World) (K : PySem.W.Frag) (mg : Str → Option Value) (base : Heap) (k : Nat) (x : Str) (n : Nat) (sp : SpI) : Prop where
  ex : ∃ (f : Addr) (fd : FuncData) (ps : List Str), GDef P w K mg base k f fd ps sp ∧ mg x = some (.ref f) ∧ PySem.W.keepIn K (.ref f) = true ∧ KBn K fd ps n ([PySem.Str.ofString "seen"] : List Str) (fun us ws => us ++ ws) (fun vs zs => vs ++ zs)
abbrev GBody (P : Program) (w : World) (K : PySem.W.Frag) (mg : Str → Option Value) (base : Heap) (N : List Str) (qual : Str) (st : Stmt) (k : Nat) (sp : SpI) : Prop :=
  ∀ (f : Addr) (cdv : Value) (A : Around) (outer : List Env) (s : Shared) (H : Hp) (vs : List V) (xs : List (List V)) (ex : List Addr), Room k (A.deeper (envOfC qual (defScope st) s.heap.objs.size f cdv)) → sp vs H xs →
    ∃ t, WGSs (wcx P w K mg base N qual (defScope st) f cdv A outer s H ex) (defBody st) t ∧ t (fun ys _ H' => ys = [] ∧ Ex H H') xs (start N vs) H
theorem fun_gdef {x qual : Str} {st : Stmt} {f : Addr} {fd : FuncData} {N ps : List Str} {k : Nat} {sp : SpI} (F : L2.Fun K x qual st f fd) (S : GScope N ps (defScope st)) (len : ∀ vs H xs, sp vs H xs → vs.length = ps.length) (b : GBody P w K mg base N qual st k sp) :
    GDef P w K mg base (k + 1) f fd ps sp := by
  obtain ⟨oc, od, kV, doc, pm, an, cdv, ct, osl, rfl, lk, hcd⟩ := F.ex
  exact gdef_of lk hcd S len fun A outer s H vs xs ex hr hsp => b f cdv A outer s H vs xs ex hr hsp
theorem DF.gcal {x : Str} {st : Stmt} {N ps : List Str} {k : Nat} {sp : SpI} (F : DF K mg x st ps) (S : GScope N ps (defScope st)) (len : ∀ vs H xs, sp vs H xs → vs.length = ps.length) (b : GBody P w K mg base N x st k sp) : GCal P w K mg base (k + 1) x sp := by
  obtain ⟨f, fd, h, hm, hb⟩ := F.ex
  exact ⟨f, fd, ps, fun_gdef h S len b, hm, h.kp, hb⟩
theorem DK.gcan {x : Str} {st : Stmt} {N ps : List Str} {k n : Nat} {sp : SpI} (F : DK K mg x st ps n) (S : GScope N ps (defScope st)) (len : ∀ vs H xs, sp vs H xs → vs.length = ps.length) (b : GBody P w K mg base N x st k sp) : GCan P w K mg base (k + 1) x n sp := by
  obtain ⟨f, fd, h, hm, hb⟩ := F.ex
  exact ⟨f, fd, ps, fun_gdef h S len b, hm, h.kp, hb⟩
end
section
variable {X : Cx} {k j n : Nat} {x : Str} {sp : SpI} {p pos : Pos} {e : Expr} {es : List Expr} {kws : List Keyword} {t tk : TA}
theorem pm_c (c : GCal X.prog X.w X.K X.mg X.base k x sp) (hr : Room j X.A) (hk : k ≤ j) (hg : Gl X x) (ha : PA X (e :: es) t)
    (hdb : (x == ("__debug__" : Str)) = false := by decide) (he : starEach (e :: es) X.env = (false, eval e X.env) :: starEach es X.env := by rfl) (hpl : (backTo pos (starEach es X.env)).any (·.1) = false := by rfl) :
    PMade X k (.Call (.Name x p) (e :: es) [] pos) (tMadeC sp t) := by
  obtain ⟨f, fd, ps, F, hm, kp, b⟩ := c.ex
  exact pm_call F (hr.mono hk) hg hm kp b ha hdb he hpl
def tMadeN (n : Nat) (sp : SpI) (t tk : TA) : TMade := fun σ H cont => t σ H fun vs H1 => tk σ H1 fun zs H2 => vs.length = n ∧ zs.length = 1 ∧ ∃ xs, sp (vs ++ zs) H2 xs ∧ cont xs H2
theorem pm_cn (c : GCan X.prog X.w X.K X.mg X.base k x n sp) (hr : Room j X.A) (hk : k ≤ j) (hg : Gl X x) (ha : PA X (e :: es) t) (hkw : PK X kws tk)
    (hall : (backToKw pos (keywordEach kws X.env)).all (·.1.isSome) = true := by rfl) (hks : (backToKw pos (keywordEach kws X.env)).filterMap (·.1) = ([PySem.Str.ofString "seen"] : List Str) := by rfl)
    (hdb : (x == ("__debug__" : Str)) = false := by decide) (he : starEach (e :: es) X.env = (false, eval e X.env) :: starEach es X.env := by rfl)
    (hpl : ((backTo pos (starEach (e :: es) X.env)).any (·.1) || (backToKw pos (keywordEach kws X.env)).any (·.1.isNone)) = false := by rfl) :
    PMade X k (.Call (.Name x p) (e :: es) kws pos) (tMadeN n sp t tk) := by
  obtain ⟨f, fd, ps, F, hm, kp, b⟩ := c.ex
  refine ⟨fun pins s σ H cont W I hw h => ?_⟩
  refine wpAny_Call_Name_kw (ld_glob I hg hm ?_ hdb)
  refine PySem.W.callWith_KW (h₀ := X.base) I.ok.mod.kin kp hall (GenW.wpAny_gsz (n := s.gens.size) (Nat.le_refl _) (wpAny_mono (ha.run pos pins s σ H _ I h) (fun us s1 ⟨vs, H1, I1, r, q⟩ hz1 => ?_) fun _ _ y _ => y)) hpl he
  refine GenW.wpAny_gsz (n := s.gens.size) hz1 (wpAny_mono (hkw.run pos pins s1 σ H1 _ I1 q) (fun ws s2 ⟨zs, H2, I2, rz, l1, l2, xs, q2, hc⟩ hz2 => ⟨I2.kIn, ?_⟩) fun _ _ y _ => y)
  rw [hks]
  refine wpAny_call (codeAny_mono (F.run X.A X.stack s2 H2 ⟨us, ([PySem.Str.ofString "seen"] : List Str).zip ws⟩ (us ++ ws) (vs ++ zs) W xs (hr.mono hk) I2.env0 (b.to s2 us ws I2.kIn (r.length.symm.trans l1) (rz.length.symm.trans l2)) (b.rel r rz) q2 (exq_of I2 hw)) fun r' s' hq => ?_)
  cases r' with
  | error e => exact False.elim hq
  | ok fl =>
    cases fl with
    | ret u => exact ⟨H2, s2, xs, I2, hq, hz2, hc⟩
    | next => exact False.elim hq
    | brk => exact False.elim hq
    | cont => exact False.elim hq
end
end K21
/-! ## S34 -/
set_option maxHeartbeats 4000000
set_option Elab.async false
set_option linter.all false
set_option maxRecDepth 100000
/-! A comparison whose right side is wide. -/
namespace K21
open PySem PySem.Spec PyProof.Rows L2
theorem ope_cmpR {X : Cx} {op : CmpOp} {r : R2} {a b : Expr} {ta tb : TE} {pos : Pos} (hx : NoX X) (ho : OpR X (compareOp op) r) (ha : PE X a ta) (hb : OPE X b tb) (hm : behindInMarks op b = false) : OPE X (.Compare a [op] [b] pos) (tOp r ta tb) := by
  refine ⟨fun pins s σ H Q I h => ?_⟩
  rw [eval_Compare1, markedBehindIn_of_false hm]
  refine on_bind (on_mono (on_calm hx (ha.run pins s σ H _ I h)) (fun v s1 ⟨x, H1, I1, r1, q1⟩ => ?_) fun _ _ z => z)
  refine on_bind (on_hold (on_mono (hb.run pins s1 σ H1 _ I1 q1) (fun u s2 ⟨y, H2, I2, r2, q2⟩ => on_stand ?_) fun _ _ z => z))
  exact on_calm hx (wpAny_operating (ho pins s2 σ H2 x y v u Q I2 r1 r2 q2))
end K21
/-! ## P29 -/
set_option Elab.async false
set_option linter.all false
set_option maxRecDepth 100000
set_option maxHeartbeats 4000000
/-! The generators of the text. -/
namespace K21
open PySem PySem.Spec PyProof.Rows L2
theorem wfor_it {J : It} {n : Nat} {G : Hp → Prop} {Y : Nat → Hp → V → Hp → Prop} (w : Walk J n G Y) {g : TG} {tb : TW} {D : List (List V) → L2.St → Hp → Prop} {xs : List (List V)} {σ : L2.St} {H : Hp} (Pv : Nat → List (List V) → L2.St → Hp → Prop) (h0 : Pv 0 xs σ H) (hG : ∀ i xs σ H, i ≤ n → Pv i xs σ H → G H)
    (hs : ∀ i x xs σ H H', i < n → Pv i xs σ H → Y i H x H' → g x σ H' fun σ2 H2 => tb (Pv (i + 1)) xs σ2 H2) (hd : ∀ xs σ H, Pv n xs σ H → D xs σ H) :
    ∃ V0 : Nat → Nat → List (List V) → L2.St → Hp → Prop, (∃ m, V0 0 m xs σ H) ∧ ∀ i m xs σ H, V0 i m xs σ H →
      (J.stop i H ∧ D xs σ H) ∨ (J.go i H ∧ ∃ N : List (List V) → L2.St → Hp → Prop, (∀ ys σ' H', N ys σ' H' → ∃ m', m' < m ∧ V0 (i + 1) m' ys σ' H') ∧ ∀ x H', J.yld i H x H' → g x σ H' fun σ2 H2 => tb N xs σ2 H2) := by
  refine ⟨fun i m xs σ H => m = n - i ∧ i ≤ n ∧ Pv i xs σ H, ⟨n, by simp, Nat.zero_le _, h0⟩, ?_⟩
  rintro i m xs σ H ⟨rfl, hi, p⟩
  have q := hG i xs σ H hi p
  by_cases hlt : i < n
  · exact .inr ⟨w.goes i H hlt q, Pv (i + 1), fun ys σ' H' p' => ⟨n - (i + 1), by omega, rfl, hlt, p'⟩, fun x H' y => hs i x xs σ H H' hlt p (w.yields i H x H' hlt q y)⟩
  · have e : i = n := by omega
    subst e
    exact .inl ⟨w.stops H q, hd xs σ H p⟩
theorem fills_none {B : Bd Str} {g : Gv Str} (h : none ∉ g) : ∀ k, fills k B g = [g]
  | 0 => rfl
  | k + 1 => by unfold fills; rw [if_neg h]
theorem fills_fuel {B : Bd Str} : ∀ (k : Nat) (g : Gv Str), g.count none ≤ k → fills (k + 1) B g = fills k B g
  | 0, g, h => by
    have : none ∉ g := fun z => by
      have := List.count_pos_iff.mpr z
      omega
    rw [fills_none this, fills_none this]
  | k + 1, g, h => by
    by_cases z : none ∈ g
    · have e : ∀ j, fills (j + 1) B g = (opts B g (fn g)).flatMap fun o => fills j B (g.set (fn g) (some o.1)) := fun j => by
        rw [fills, if_pos z]
      rw [e (k + 1), e k]
      congr 1
      funext o
      have := count_set (n := o.1) (fn_at z)
      exact fills_fuel k _ (by omega)
    · rw [fills_none z, fills_none z]
theorem fills_any {B : Bd Str} {g : Gv Str} : ∀ k, g.count none ≤ k → fills k B g = fills (g.count none) B g := fun k h => by
  obtain ⟨d, rfl⟩ := Nat.exists_eq_add_of_le h
  clear h
  induction d with
  | zero => rfl
  | succ d ih => rw [← Nat.add_assoc, fills_fuel _ _ (by omega), ih]
/-- the closed lists as they are handed out -/
def spFill (CB : Addr) (k : Nat) : SpI := fun vs H xs => ∃ (p a : Addr) (B : Bd Str) (g' : Gv Str), vs = [.ref p, .ref a] ∧ Gvn CB H p a B g' ∧ g'.count none ≤ k ∧ xs = (fills k B g').map (List.map vo)
section
variable {P : Program} {w : World} {K : PySem.W.Frag} {mg : Str → Option Value} {base : Heap} {C : Kd → Addr} {CB RC : Addr}
abbrev sfillings : Stmt := top 49
abbrev Nfillings : List Str := ["board", "given", "position", "item", "lists"]
theorem scfillings : GScope Nfillings ["board", "given"] (defScope sfillings) := ⟨rfl, rfl, rfl, by decide +kernel, rfl, by decide +kernel, by decide +kernel⟩
-- 0 board, 1 given, 2 position, 3 item, 4 lists
theorem gcal_step (F : DF K mg "fillings" sfillings ["board", "given"]) (T : Txt K mg C CB RC) (c_options : C8.Cal P w K mg base 5 "options" (spOptions CB) []) (c_with_item : C8.Cal P w K mg base 1 "with_item" spWithItem []) (k : Nat) (sp' : SpI)
    (c_fillings : GCal P w K mg base (2 * k + 6) "fillings" sp') (hsp : ∀ j, k = j + 1 → sp' = spFill CB j) : GCal P w K mg base (2 * k + 8) "fillings" (spFill CB k) := by
  refine F.gcal (k := 2 * k + 7) scfillings (fun vs H xs h => ?_) (fun f cdv A outer s H vs xs ex hr h => ?_)
  · obtain ⟨p, a, B, g', rfl, _⟩ := h
    rfl
  · obtain ⟨p, a, B, x, rfl, hG, hcnt, rfl⟩ := h
    obtain ⟨g, hB⟩ := hG.bd
    have hx := hG.gv
    have okx := hG.ok
    have xl : x.length ≤ 40 := by rw [okx.len]; exact hB.few
    refine ⟨_, (wgss_one (wgs_if nox_w (pt_cmpR (op_notIn_seq_k K) pe_non (pv 1) (by rfl)) (wgss_one (wgs_yield nox_w (pe_callTy (call_list_of_k K) (by rfl) T.list_ (by decide +kernel) (pa_cons (pv 1) pa_nil)))) (wgss_cons (wgs_plain nox_w (ps_set (i := 2) scfillings.nd rfl (Or.inl rfl) (pe_bm_k K PySem.F.plainAttrs_list PySem.F.slot_list_index PySem.F.type_list_index (mt_index_k K) (pv 1) (pa_cons pe_non pa_nil))))
      (wgss_one (wgs_for nox_w rfl (pi_list_k K (C8.pe_c c_options hr (by omega) (by rfl) (pa_cons (pv 0) (pa_cons (pv 1) (pa_cons (pv 2) pa_nil))))) (pg_tup_k K (n := 2) rfl (pgs_cons (pg_name (i := 3) scfillings.nd rfl (Or.inl rfl)) (pgs_cons (pg_name (i := 4) scfillings.nd rfl (Or.inl rfl)) pgs_nil))) (wgss_one (wgs_from nox_w (pm_c c_fillings hr (by omega) (by rfl) (pa_cons (pv 0) (pa_cons (C8.pe_c c_with_item hr (by omega) (by rfl) (pa_cons (pv 1) (pa_cons (pv 2) (pa_cons (pv 3) pa_nil)))) pa_nil))) hr (by omega)))))))), ?_⟩
    refine ⟨_, rfl, a, _, rfl, .inl (Evl.sq_of hx), rfl, flat_vo x, ?_⟩
    refine ⟨_, rfl, ?_⟩
    rw [if_pos rfl, inV_non]
    by_cases c : none ∈ x
    · rw [decide_eq_true c]
      refine iteF ?_
      have hc0 := List.count_pos_iff.mpr c
      obtain ⟨j, rfl⟩ : ∃ j, k = j + 1 := ⟨k - 1, by omega⟩
      obtain rfl := hsp j rfl
      have hfn := fn_at c
      have hfl := (List.getElem?_eq_some_iff.mp hfn).1
      have hfill : (fills (j + 1) B x).map (List.map vo) = (opts B x (fn x)).flatMap fun o => (fills j B (x.set (fn x) (some o.1))).map (List.map vo) := by
        rw [fills, if_pos c, List.map_flatMap]
      rw [hfill]
      refine ⟨_, rfl, .inl ⟨rfl, _, Evl.sq_of hx⟩, a, _, .non, fn x, .non, rfl, rfl, Evl.sq_of hx, rfl, flat_vo x, by rw [List.getElem?_map, hfn]; rfl, rfl, fun i z' hj hz => ?_, ?_⟩
      · rw [List.getElem?_map] at hz
        obtain ⟨o, ho, rfl⟩ := Option.map_eq_some_iff.mp hz
        rw [eqV_non]
        exact decide_eq_false fun z => fn_before hj (by rw [ho, z])
      refine ⟨_, rfl, _, rfl, _, rfl, p, a, fn x, B, x, rfl, hG, hfn, fun oA H4 ts _ e4 h4 hP => ?_⟩
      have lenO : (opts B x (fn x)).length = ts.length := hP.len.symm
      refine ⟨oA, rfl, ⟨_, Evl.sq_of h4⟩, wfor_it (walk_list (xs := ts)) (fun i ys σ H5 => ∃ (y3 y4 : Option V), σ = [some (.ref p), some (.ref a), some (.int (fn x : Nat)), y3, y4] ∧ Ex H4 H5 ∧ ys = ((opts B x (fn x)).drop i).flatMap fun o => (fills j B (x.set (fn x) (some o.1))).map (List.map vo))
        ⟨none, none, rfl, Evl.Ex.refl _, rfl⟩ (fun i ys σ H5 _ Q => ?_) (fun i v ys σ H5 H' hi Q y => ?_) fun ys σ H5 Q => ?_⟩
      · obtain ⟨_, _, rfl, e5, _⟩ := Q
        exact Evl.sq_of (e5 _ _ h4)
      · obtain ⟨y3, y4, rfl, e5, rfl⟩ := Q
        obtain ⟨rfl, hv⟩ := y
        obtain ⟨t, n1, c1, rfl, ho, ht⟩ := hP.at_ i v hv
        have hdrop : (opts B x (fn x)).drop i = (n1, c1) :: (opts B x (fn x)).drop (i + 1) := by
          obtain ⟨h5, h6⟩ := List.getElem?_eq_some_iff.mp ho
          rw [List.drop_eq_getElem_cons h5, h6]
        obtain ⟨ok2, _, _⟩ := opt_step okx (List.mem_of_getElem? ho)
        refine ⟨t, _, rfl, .inl (.inl (e5 _ _ ht)), rfl, _, _, rfl, _, _, rfl, rfl, ?_⟩
        refine ⟨_, rfl, _, rfl, _, rfl, _, rfl, a, fn x, .str n1, _, rfl, (e4.trans e5) _ _ hx, by rw [List.length_map]; exact hfl, by rw [List.length_map]; exact xl, fun nA H6 hnA e6 h6 => ?_⟩
        refine ⟨_, ⟨p, nA, B, x.set (fn x) (some n1), rfl, ⟨⟨g, hB.mono ((e4.trans e5).trans e6)⟩, by rw [h6, List.map_set]; rfl, ok2⟩, ?_, rfl⟩, _, by rw [hdrop, List.flatMap_cons], fun H7 e7 => ?_⟩
        · have := count_set (n := n1) hfn
          omega
        · exact ⟨_, _, rfl, (e5.trans e6).trans e7, rfl⟩
      · obtain ⟨y3, y4, rfl, e5, rfl⟩ := Q
        refine ⟨?_, e4.trans e5⟩
        rw [← lenO, List.drop_length]
        rfl
    · rw [decide_eq_false c]
      refine iteT ?_
      refine ⟨_, rfl, a, _, rfl, .inl (Evl.sq_of hx), fun q1 hq1 => ?_⟩
      exact ⟨q1, x.map vo, [], rfl, hq1, upd_same, by rw [fills_none c]; rfl, rfl, ex_del hq1 (Evl.Ex.new hq1)⟩
theorem gcal_fillings (F : DF K mg "fillings" sfillings ["board", "given"]) (T : Txt K mg C CB RC) (c_options : C8.Cal P w K mg base 5 "options" (spOptions CB) []) (c_with_item : C8.Cal P w K mg base 1 "with_item" spWithItem []) : ∀ k, GCal P w K mg base (2 * k + 8) "fillings" (spFill CB k)
  | 0 => gcal_step F T c_options c_with_item 0 (fun _ _ _ => False) (F.gcal (k := 5) scfillings (fun _ _ _ h => h.elim) fun _ _ _ _ _ _ _ _ _ _ h => h.elim) fun j h => by omega
  | k + 1 => gcal_step F T c_options c_with_item (k + 1) (spFill CB k) (gcal_fillings F T c_options c_with_item k) fun j h => by
    obtain rfl : k = j := by omega
    rfl
/-- asked of a log whose lists are few -/
def spPoss (C : Kd → Addr) : SpI := fun vs H xs => ∃ (a b : Addr) (k : Kd) (rows : List (Str × Int)) (g : Gv Str) (B : Bd Str), vs = [.ref a, .ref b] ∧ Asked C H a b k rows g B ∧ 0 < cnt B g ∧ g.count none ≤ 5 ∧ xs = (fills 5 B g).map (List.map vo)
abbrev spossible_lists : Stmt := top 57
abbrev Npossible_lists : List Str := ["log", "seen", "board"]
theorem scpossible_lists : GScope Npossible_lists ["log", "seen"] (defScope spossible_lists) := ⟨rfl, rfl, rfl, by decide +kernel, rfl, by decide +kernel, by decide +kernel⟩
-- 0 log, 1 seen, 2 board
theorem gcan_possible (F : DK K mg "possible_lists" spossible_lists ["log", "seen"] 1) (T : Txt K mg C CB RC) (c_board_of : C8.Cal P w K mg base 6 "board_of" (spBoardOf C CB) []) (c_conflict_on : C8.Cal P w K mg base 4 "conflict_on" (spConflictOn CB) []) (c_fillings : GCal P w K mg base 18 "fillings" (spFill CB 5)) : GCan P w K mg base 20 "possible_lists" 1 (spPoss C) := by
  refine F.gcan (k := 19) scpossible_lists (fun vs H xs h => ?_) (fun f cdv A outer s H vs xs ex hr h => ?_)
  · obtain ⟨a, b, k, rows, g, B, rfl, _⟩ := h
    rfl
  · obtain ⟨a, b, k, rows, g, B, rfl, hA, hpos, hcnt, rfl⟩ := h
    refine ⟨_, (wgss_cons (wgs_plain nox_w (ps_set (i := 2) scpossible_lists.nd rfl (Or.inl rfl) (C8.pe_c c_board_of hr (by decide) (by rfl) (pa_cons (pv 0) (pa_cons (pv 1) pa_nil)))))
      (wgss_one (wgs_if nox_w (pt_cmpR op_isN (C8.pe_c c_conflict_on hr (by decide) (by rfl) (pa_cons (pv 2) pa_nil)) pe_non (nomark _)) (wgss_one (wgs_from nox_w (pm_c c_fillings hr (by omega) (by rfl) (pa_cons (pv 2) (pa_cons (pe_fld_k K (pv 2) rfl) pa_nil))) hr (by omega))) wgss_nil))), ?_⟩
    refine ⟨_, rfl, _, rfl, a, b, k, rows, g, B, rfl, hA, fun p H1 _ e1 hB => ?_⟩
    obtain ⟨dx, d, gl, l, hp, hd, hl, hg⟩ := hB.ex
    refine ⟨_, rfl, p, B, g, rfl, hB, fun v H2 e2 hv => ?_⟩
    obtain rfl : v = .non := by
      unfold confV at hv
      rw [if_pos hpos] at hv
      exact hv
    refine ⟨rfl, true, bl_t (decide_eq_true rfl), iteT ?_⟩
    refine ⟨_, rfl, _, rfl, p, CB, dx, _, _, rfl, e2 _ _ hp, T.clB, T.nB "given" (by decide), bd_given _ _ _ _, ?_⟩
    refine ⟨_, ⟨p, gl, B, g, rfl, ⟨⟨g, hB.mono e2⟩, e2 _ _ hg, hB.ok⟩, hcnt, rfl⟩, [], (by rw [List.append_nil]), fun H3 e3 => ⟨rfl, (e1.trans e2).trans e3⟩⟩
end
end K21
/-! ## M5 -/
set_option maxHeartbeats 4000000
/-! How many closed lists there are at the most. -/
namespace K21
variable {α : Type} [DecidableEq α]
omit [DecidableEq α] in
theorem fmf_le {β : Type} (f : α → Option β) (p : α → Bool) (h : ∀ n, f n ≠ none → p n = true) : ∀ l : List α, (l.filterMap f).length ≤ (l.filter p).length
  | [] => Nat.le_refl _
  | n :: l => by
    have ih := fmf_le f p h l
    rw [List.filterMap_cons, List.filter_cons]
    cases e : f n with
    | none =>
      simp only
      split
      · rw [List.length_cons]; omega
      · exact ih
    | some b =>
      simp only
      rw [if_pos (h n (by rw [e]; simp)), List.length_cons, List.length_cons]
      omega
omit [DecidableEq α] in
theorem itms_count [DecidableEq α] : ∀ g : Gv α, (itms g).length + g.count none = g.length
  | [] => rfl
  | none :: g => by
    have ih := itms_count g
    have e : itms (none :: g) = itms g := rfl
    rw [e, List.count_cons_self, List.length_cons]
    omega
  | some n :: g => by
    have ih := itms_count g
    have e : itms (some n :: g) = n :: itms g := rfl
    rw [e, List.length_cons, List.count_cons_of_ne (by simp), List.length_cons]
    omega
theorem wait_few {ns : List α} {g : Gv α} (nd : ns.Nodup) (ok : Gok ns g) : (wait ns g).length ≤ g.count none := by
  have h1 : (ns.filter fun n => decide (some n ∈ g)).length = (itms g).length := by
    refine ((List.perm_ext_iff_of_nodup (nd.sublist List.filter_sublist) (itms_nodup ok)).mpr fun x => ?_).length_eq
    rw [List.mem_filter]
    constructor
    · intro h
      exact List.mem_filterMap.mpr ⟨some x, by simpa using h.2, rfl⟩
    · intro h
      obtain ⟨o, ho, e⟩ := List.mem_filterMap.mp h
      have e : o = some x := e
      rw [e] at ho
      exact ⟨ok.mem x ho, by simpa using ho⟩
  have h2 : ∀ (p : α → Bool) (l : List α), (l.filter p).length + (l.filter fun n => !p n).length = l.length := fun p l => by
    induction l with
    | nil => rfl
    | cons a l ih =>
      rw [List.filter_cons, List.filter_cons]
      cases e : p a <;> simp <;> omega
  have h3 := h2 (fun n => decide (some n ∈ g)) ns
  have h4 := itms_count g
  have h5 := ok.len
  unfold wait
  omega
theorem opts_few {B : Bd α} {g : Gv α} {p : Nat} (nd : B.ns.Nodup) (ok : Gok B.ns g) : (opts B g p).length ≤ g.count none := by
  refine Nat.le_trans (fmf_le _ _ (fun n h => ?_) _) (wait_few nd ok)
  unfold optF at h
  by_cases z : some n ∈ g
  · rw [if_pos z] at h; exact absurd rfl h
  · simpa using z
def facN : Nat → Nat
  | 0 => 1
  | k + 1 => (k + 1) * facN k
theorem facN_pos : ∀ k, 1 ≤ facN k
  | 0 => Nat.le_refl _
  | k + 1 => by
    have := facN_pos k
    unfold facN
    exact Nat.le_trans this (Nat.le_mul_of_pos_left _ (by omega))
theorem fml_le {β γ : Type} (f : β → List γ) (m : Nat) : ∀ l : List β, (∀ x ∈ l, (f x).length ≤ m) → (l.flatMap f).length ≤ l.length * m
  | [], _ => by simp
  | x :: l, h => by
    rw [List.flatMap_cons, List.length_append, List.length_cons, Nat.add_mul]
    have h1 := h x List.mem_cons_self
    have h2 := fml_le f m l fun y hy => h y (List.mem_cons_of_mem _ hy)
    omega
theorem fills_len {B : Bd α} (nd : B.ns.Nodup) : ∀ (k : Nat) (g : Gv α), g.count none ≤ k → Gok B.ns g → (fills k B g).length ≤ facN k
  | 0, g, _, _ => Nat.le_refl _
  | k + 1, g, h, ok => by
    unfold fills
    split
    · rename_i hn
      refine Nat.le_trans (fml_le _ (facN k) _ fun o ho => ?_) ?_
      · obtain ⟨n, c⟩ := o
        obtain ⟨o1, _, _⟩ := opt_step ok ho
        have := count_set (n := n) (fn_at hn)
        exact fills_len nd k _ (by show (g.set (fn g) (some n)).count none ≤ k; omega) o1
      · have := opts_few (p := fn g) nd ok
        show _ ≤ (k + 1) * facN k
        exact Nat.mul_le_mul_right _ (by omega)
    · exact facN_pos _
end K21
/-! ## O29 -/
set_option Elab.async false
set_option linter.all false
set_option maxRecDepth 100000
set_option maxHeartbeats 4000000
/-! The mirrored log. -/
namespace K21
open PySem PySem.Spec PyProof.Rows L2
/-- the mirrored rows -/
def mrow (rows : List (Str × Int)) : List (Str × Int) := rows.map fun o => (o.1, (rows.length : Int) - 1 - o.2)
theorem mrow_len {rows : List (Str × Int)} : (mrow rows).length = rows.length := List.length_map _
theorem mrow_names {rows : List (Str × Int)} : (mrow rows).map (·.1) = rows.map (·.1) := by
  unfold mrow
  rw [List.map_map]
  exact List.map_congr_left fun _ _ => rfl
theorem mrow_ok {rows : List (Str × Int)} (ok : RowsOk rows) (near : ∀ r ∈ rows, r.2 < rows.length) : RowsOk (mrow rows) := by
  have few := ok.few
  refine ⟨by rw [mrow_len]; exact ok.few, by rw [mrow_names]; exact ok.nd, fun r hr => ?_, fun r hr => ?_⟩
  · obtain ⟨o, ho, rfl⟩ := List.mem_map.mp hr
    exact ok.its o ho
  · obtain ⟨o, ho, rfl⟩ := List.mem_map.mp hr
    have h1 := near o ho
    have h2 := (ok.sl o ho).1
    refine ⟨?_, ?_⟩
    · show 0 ≤ (rows.length : Int) - 1 - o.2
      omega
    · show (rows.length : Int) - 1 - o.2 ≤ 60
      omega
theorem mrow_canon {rows : List (Str × Int)} {B : Bd Str} {k : Kd} (c : Canon k rows B) (hk : k.isF = false) : Canon .fro (mrow rows) (mir B) := by
  refine ⟨by rw [mrow_names]; exact c.perm, c.asc, rfl, fun n s h => ?_⟩
  obtain ⟨o, ho, e⟩ := List.mem_map.mp h
  injection e with e1 e2
  have q := c.fl o.1 o.2 (by exact ho)
  rw [hk, if_neg Bool.false_ne_true] at q
  show B.fl n = if Kd.fro.isF = true then ((mrow rows).length : Int) - 1 - s else s
  rw [if_pos (show Kd.fro.isF = true from rfl), mrow_len, ← e1, ← e2, q]
  omega
theorem mrow_sok {rows : List (Str × Int)} {g : Gv Str} (s : Sok rows g) : Sok (mrow rows) g.reverse := by
  refine ⟨by rw [List.length_reverse, mrow_len]; exact s.len, fun n hn => by rw [mrow_names]; exact s.mem n (by simpa using hn), ?_⟩
  have : itms g.reverse = (itms g).reverse := by unfold itms; rw [List.filterMap_reverse]
  rw [this]
  exact (List.reverse_perm _).nodup_iff.mpr s.one
/-! ### the rows as data -/
abbrev rowsD (L : List (List Str)) : List PyData := L.map fun x => PyData.list (x.map .str)
theorem rows_dpa {K : PySem.W.Frag} {H : Hp} : ∀ (rs : List Addr) (L : List (List Str)), rs.length = L.length → (∀ (i : Nat) r x, rs[i]? = some r → L[i]? = some x → H r = some (.lst (x.map V.str))) → DpAll K H (rs.map V.ref) (rowsD L)
  | [], [], _, _ => .nil
  | r :: rs, x :: L, h, hr => .cons (dp_strs (hr 0 r x rfl rfl)) (rows_dpa rs L (by simpa using h) fun i r' x' h1 h2 => hr (i + 1) r' x' h1 h2)
theorem alikeAll_strs : ∀ x y : List Str, PySem.W.alikeAll (x.map .str) (y.map .str) = true
  | [], _ => by rw [List.map_nil, PySem.W.alikeAll]
  | _ :: _, [] => by rw [List.map_nil, List.map_cons, PySem.W.alikeAll]
  | a :: x, b :: y => by
    rw [List.map_cons, List.map_cons, PySem.W.alikeAll, alikeAll_strs x y]
    rfl
theorem alike_rows {L : List (List Str)} : PySem.W.AllAlike (rowsD L) := fun d hd d' hd' => by
  obtain ⟨x, _, rfl⟩ := List.mem_map.mp hd
  obtain ⟨y, _, rfl⟩ := List.mem_map.mp hd'
  show PySem.W.alike (.list _) (.list _) = true
  rw [PySem.W.alike]
  exact alikeAll_strs x y
theorem sortable_rows {L : List (List Str)} : PySem.W.Sortable (rowsD L) := .inr fun d hd => by
  obtain ⟨x, _, rfl⟩ := List.mem_map.mp hd
  exact ⟨fun z => (by cases z), fun xs z => (by cases z)⟩
theorem rowsD_pure {L : List (List Str)} (h : ∀ x ∈ L, ∀ s ∈ x, okItem s) : pure0 (.list (rowsD L)) = true := by
  rw [pure0]
  refine pureAll_map _ _ fun x hx => ?_
  rw [pure0]
  exact pureAll_map _ _ fun s hs => item_pure (h x hx s hs)
theorem row_depth (x : List Str) : PyData.depth (.list (x.map .str)) ≤ 1 := by
  rw [PyData.depth]
  have := depthAll_map x PyData.str 0 fun _ _ => by simp [PyData.depth]
  omega
theorem rowsD_depth {L : List (List Str)} : PyData.depth (.list (rowsD L)) ≤ 2 := by
  rw [PyData.depth]
  have : PyData.depthAll (rowsD L) ≤ 1 := depthAll_map L (fun x => PyData.list (x.map .str)) 1 fun x _ => row_depth x
  omega
/-- the sorted rows, as data -/
theorem sorted_dp {K : PySem.W.Frag} {H : Hp} {xs : List V} {ds : List PyData} (h : DpAll K H xs ds) {ps : List (V × PyData)} (hp : ps.Perm (xs.zip ds)) : DpAll K H (ps.map (·.1)) (ps.map (·.2)) := by
  have all : ∀ p ∈ ps, Dp K H p.1 p.2 := fun p hp' => by
    have hz := hp.mem_iff.mp hp'
    obtain ⟨i, hi⟩ := List.mem_iff_getElem?.mp hz
    rw [List.getElem?_zip_eq_some] at hi
    obtain ⟨d, hd, q⟩ := dpa_get h hi.1
    rw [hi.2] at hd
    cases hd
    exact q
  exact dpa_map ps _ _ all
/-- what the closed lists are -/
theorem fills_rows {B : Bd Str} {g : Gv Str} (ok : Gok B.ns g) (hpos : 0 < cnt B g) {k : Nat} (hk : g.count none ≤ k) {x : Gv Str} (hx : x ∈ fills k B g) : x = (itms x).map some ∧ (∀ s ∈ itms x, s ∈ B.ns) := by
  have c := (mem_fills k g x hk ok hpos).mp hx
  refine ⟨(itms_map c.full).symm, fun s hs => ?_⟩
  obtain ⟨o, ho, e⟩ := List.mem_filterMap.mp hs
  have e : o = some s := e
  rw [e] at ho
  exact c.ok.mem s ho
theorem itms_rev (g : Gv Str) : itms g.reverse = (itms g).reverse := by unfold itms; rw [List.filterMap_reverse]
section
variable {P : Program} {w : World} {K : PySem.W.Frag} {mg : Str → Option Value} {base : Heap} {C : Kd → Addr} {CB RC : Addr}
abbrev slaw_mirror_right : Stmt := top 78
abbrev Nlaw_mirror_right : List Str := ["_law_rows", "_law_sights_here", "_law_name", "_law_spot", "_law_size", "_law_book_here", "_law_other", "_law_turned", "_law_mirrored", "_law_there", "_law_at", "_law_row", "_law_own", "_law_slot"]
theorem sclaw_mirror_right : FnScope Nlaw_mirror_right ["_law_rows", "_law_sights_here", "_law_name", "_law_spot"] (defScope slaw_mirror_right) := ⟨rfl, rfl, rfl, by decide +kernel, rfl, by decide +kernel, by decide +kernel⟩
-- 0 _law_rows, 1 _law_sights_here, 2 _law_name, 3 _law_spot, 4 _law_size*, 5 _law_book_here, 6 _law_other, 7 _law_turned, 8 _law_mirrored, 9 _law_there, 10 _law_at, 11 _law_row, 12 _law_own, 13 _law_slot
theorem cal_mirror (F : DF K mg "_law_mirror_right" slaw_mirror_right ["_law_rows", "_law_sights_here", "_law_name", "_law_spot"]) (T : Txt K mg C CB RC) (c__law_book : C8.Cal P w K mg base 5 "_law_book" (spBook C) []) (c_count : CaN P w K mg base 7 "count" 1 (spCount C)) (c_conflict : CaN P w K mg base 7 "conflict" 1 (spConflict C)) (c_share : CaN P w K mg base 7 "share" 3 (spShare C)) (c_positions : CaN P w K mg base 7 "positions" 2 (spPositions C)) (c_certain : CaN P w K mg base 7 "certain" 1 (spCertain C)) (c_possible_lists : GCan P w K mg base 20 "possible_lists" 1 (spPoss C)) : OCal P w K mg base 24 "_law_mirror_right" spMirror := by
  refine F.ocal (k := 23) sclaw_mirror_right (fun vs H Q E h => ?_) (fun f cdv A outer s H vs Q E hr h => ?_)
  · obtain ⟨r, b, n, i, rows, g, rfl, _⟩ := h
    rfl
  · obtain ⟨r, b, n, i, rows, g, rfl, hR, ok, hne, near, hb, sok, hn, hi, q⟩ := h
    have hR0 := hR
    obtain ⟨ts, hts, hP⟩ := hR
    have hlen := hP.len
    have few := ok.few
    have few40 : rows.length ≤ 40 := by omega
    obtain ⟨B, cn⟩ := Canon.exists (k := .ins) ok.nd
    have hl := cn.len
    have htn : B.tn = false := cn.tn
    have nd := asc_nodup cn.asc
    have okg : Gok B.ns g := gok_sok sok cn.perm
    have hnB : n ∈ B.ns := cn.perm.mem_iff.mp hn
    have okM := mrow_ok ok near
    have cnM := mrow_canon cn rfl
    have sokM := mrow_sok sok
    have glen : g.length = rows.length := sok.len
    have neM : mrow rows ≠ [] := fun z => hne (by have := congrArg List.length z; rw [mrow_len] at this; exact List.eq_nil_of_length_eq_zero this)
    refine ⟨_, (oss_cons (os_of nox_nox (ps_set (i := 4) sclaw_mirror_right.nd rfl (Or.inr rfl) (pe_callB (call_len_k K) (by rfl) T.len_ (by decide +kernel) (pa_cons (pv 0) pa_nil))))
      (oss_cons (os_of nox_nox (ps_set (i := 5) sclaw_mirror_right.nd rfl (Or.inl rfl) (C8.pe_c c__law_book hr (by decide) (by rfl) (pa_cons (pe_tup (pa_cons pe_int (pa_cons (pv 0) pa_nil))) pa_nil))))
      (oss_cons (os_of nox_nox (ps_set (i := 6) sclaw_mirror_right.nd rfl (Or.inl rfl) (C8.pe_c c__law_book hr (by decide) (by rfl) (pa_cons (pe_tup (pa_cons pe_int (pa_cons (pe_lc (own := [("_law_own", 12), ("_law_slot", 13)]) rfl sclaw_mirror_right.nd (pi_list_k K (pv 0)) (blkOk_by (N := Nlaw_mirror_right) (sc := defScope slaw_mirror_right) (own := [("_law_own", 12), ("_law_slot", 13)]) (by decide +kernel)) (fun _ _ _ _ _ => (pg_tup_k K (n := 2) rfl (pgs_cons (pg_name (i := 12) sclaw_mirror_right.nd rfl (Or.inl rfl)) (pgs_cons (pg_name (i := 13) sclaw_mirror_right.nd rfl (Or.inl rfl)) pgs_nil)))) (fun _ _ _ _ _ => pts_nil) (fun _ _ _ _ _ => (pe_tup (pa_cons (pv 12) (pa_cons (pe_op op_sub (pe_op op_sub (pv 4) pe_int) (pv 13)) pa_nil))))) pa_nil))) pa_nil))))
      (oss_cons (os_of nox_nox (ps_set (i := 7) sclaw_mirror_right.nd rfl (Or.inl rfl) (pe_revL_k K (pv 1))))
      (oss_cons (os_of nox_nox (ps_if (pt_cmpR op_ne (pe_cn c_count hr (by decide) (by rfl) (pa_cons (pv 5) pa_nil) (pk_cons (pv 1) pk_nil)) (pe_cn c_count hr (by decide) (by rfl) (pa_cons (pv 6) pa_nil) (pk_cons (pv 7) pk_nil)) (nomark _)) (pss_one (ps_ret pe_bl)) pss_nil))
      (oss_cons (os_of nox_nox (ps_if (pt_cmpR op_eq (pe_cn c_count hr (by decide) (by rfl) (pa_cons (pv 5) pa_nil) (pk_cons (pv 1) pk_nil)) pe_int (nomark _)) (pss_one (ps_ret (pe_cmpR op_notN (pe_cn c_conflict hr (by decide) (by rfl) (pa_cons (pv 6) pa_nil) (pk_cons (pv 7) pk_nil)) pe_non (nomark _)))) pss_nil))
      (oss_cons (os_of nox_nox (ps_if (pt_cmpR (op_neD_k K (hr_u hr)) (pe_cn c_share hr (by decide) (by rfl) (pa_cons (pv 5) (pa_cons (pv 2) (pa_cons (pv 3) pa_nil))) (pk_cons (pv 1) pk_nil)) (pe_cn c_share hr (by decide) (by rfl) (pa_cons (pv 6) (pa_cons (pv 2) (pa_cons (pe_op op_sub (pe_op op_sub (pv 4) pe_int) (pv 3)) pa_nil))) (pk_cons (pv 7) pk_nil)) (nomark _)) (pss_one (ps_ret pe_bl)) pss_nil))
      (oss_cons (os_of nox_nox (ps_setLc (i := 8) (own := [("_law_at", 10)]) rfl sclaw_mirror_right.nd rfl rfl (sw_true rfl rfl rfl (by decide +kernel)) (pi_list_k K (pe_cn c_positions hr (by decide) (by rfl) (pa_cons (pv 6) (pa_cons (pv 2) pa_nil)) (pk_cons (pv 7) pk_nil))) (blkOk_by (N := Nlaw_mirror_right) (sc := defScope slaw_mirror_right) (own := [("_law_at", 10)]) (by decide +kernel)) (fun _ _ _ _ _ => (pg_name (i := 10) sclaw_mirror_right.nd rfl (Or.inl rfl))) (fun _ _ _ _ _ => pts_nil) (fun _ _ _ _ _ => (pe_op op_sub (pe_op op_sub (pv 4) pe_int) (pv 10)))))
      (oss_cons (os_of nox_nox (ps_if (pt_cmpR (op_neD_k K (hr_u hr)) (pe_cn c_positions hr (by decide) (by rfl) (pa_cons (pv 5) (pa_cons (pv 2) pa_nil)) (pk_cons (pv 1) pk_nil)) (pe_revL_k K (pv 8)) (nomark _)) (pss_one (ps_ret pe_bl)) pss_nil))
      (oss_cons (os_of nox_nox (ps_if (pt_cmpR (op_neD_k K (hr_u hr)) (pe_cn c_certain hr (by decide) (by rfl) (pa_cons (pv 5) pa_nil) (pk_cons (pv 1) pk_nil)) (pe_revL_k K (pe_cn c_certain hr (by decide) (by rfl) (pa_cons (pv 6) pa_nil) (pk_cons (pv 7) pk_nil))) (nomark _)) (pss_one (ps_ret pe_bl)) pss_nil))
      (oss_cons (os_of nox_nox (ps_if (pt_cmpR op_gt (pv 4) pe_int (nomark _)) (pss_one (ps_ret pe_bl)) pss_nil))
      (oss_cons (os_setLcW (i := 9) nox_nox sclaw_mirror_right.nd (pm_cn c_possible_lists hr (by decide) (by rfl) (pa_cons (pv 6) pa_nil) (pk_cons (pv 7) pk_nil)) hr (by decide) rfl rfl (sw_true rfl rfl rfl (by decide +kernel)) rfl rfl (by decide +kernel) (by decide))
      (oss_one (os_ret (ope_cmpR nox_nox (op_eqD_k K (hr_u hr)) (pe_callB (cr_sortedData_k K (hr_u hr)) (by rfl) T.sorted_ (by decide +kernel) (pa_cons (pv 9) pa_nil)) (ope_listW nox_nox (pm_cn c_possible_lists hr (by decide) (by rfl) (pa_cons (pv 5) pa_nil) (pk_cons (pv 1) pk_nil)) hr (by decide) (by rfl) T.list_) (nomark _)))))))))))))))), ?_⟩
    -- size, book here
    refine ⟨_, rfl, r, ts, rfl, .inl (Evl.sq_of hts), ?_⟩
    refine ⟨_, rfl, (by show 2 ≤ sizeLine; decide), fun t1 ht1 => ?_⟩
    have e1 : Ex H (upd H t1 (.tup [.int 0, .ref r])) := Evl.Ex.new ht1
    have g1 : upd H t1 (.tup [.int 0, .ref r]) t1 = some (.tup [.int 0, .ref r]) := upd_same
    generalize upd H t1 (.tup [.int 0, .ref r]) = H1 at e1 g1 ⊢
    refine ⟨t1, r, 0, rows, rfl, g1, hR0.ex e1, ok, fun bk H2 hbk e2 hB => ?_⟩
    have e02 := e1.trans e2
    have hts2 := e02 _ _ hts
    -- other
    refine ⟨_, rfl, r, rfl, ⟨_, Evl.sq_of hts2⟩, fun R2 hR2 => ?_⟩
    refine lcA (walk_list (xs := ts)) (fun i acc H4 => PairsIn H4 acc ((mrow rows).take i)) hR2 (by omega) (fun H4 e => Evl.sq_of (e _ _ hts2)) PairsIn.nil (fun i acc H4 h => ?_) (fun i acc H4 H5 h e => h.ex e) (fun j x H4 H' acc Qy Qn hj e hacc hAc y k1 k2 => ?_) fun H4 acc e4 h4 hAc => ?_
    · rw [h.len, List.length_take]; omega
    · obtain ⟨rfl, hx⟩ := y
      obtain ⟨t, m, cc, rfl, hrow, ht⟩ := hP.at_ j x hx
      refine ⟨t, _, rfl, .inl (.inl ((e02.trans e) _ _ ht)), rfl, _, _, rfl, _, _, rfl, rfl, rfl, ?_⟩
      refine iteT (B := Qn H') ?_
      refine ⟨_, rfl, _, rfl, _, _, rfl, rfl, _, rfl, _, _, rfl, rfl, (by show 2 ≤ sizeLine; decide), fun u hu => ?_⟩
      have eu : Ex H' (upd H' u (.tup [.str m, .int ((ts.length : Nat) - 1 - cc)])) := Evl.Ex.new hu
      have nu : u ≠ R2 := fun z => by rw [z, hacc] at hu; cases hu
      refine k1 _ _ eu ?_
      have hr2 : (mrow rows)[j]? = some (m, (ts.length : Int) - 1 - cc) := by unfold mrow; rw [List.getElem?_map, hrow, hlen]; rfl
      rw [List.take_add_one, hr2]
      exact PairsIn.snoc (hAc.ex (del_ex eu)) (by rw [del_ne nu, upd_same])
    have hR2' : RowsAt H4 R2 (mrow rows) := by
      refine ⟨acc, h4, ?_⟩
      have := hAc.ex del_sub
      rwa [hlen, ← mrow_len (rows := rows), List.take_length] at this
    refine ⟨(by show 2 ≤ sizeLine; decide), fun t2 ht2 => ?_⟩
    have e5 : Ex H4 (upd H4 t2 (.tup [.int 2, .ref R2])) := Evl.Ex.new ht2
    have g5 : upd H4 t2 (.tup [.int 2, .ref R2]) t2 = some (.tup [.int 2, .ref R2]) := upd_same
    generalize upd H4 t2 (.tup [.int 2, .ref R2]) = H5 at e5 g5 ⊢
    refine ⟨t2, R2, 2, mrow rows, rfl, g5, hR2'.ex e5, okM, fun bo H6 hbo e6 hBo => ?_⟩
    have e26 : Ex H2 H6 := (e4.trans e5).trans e6
    have e06 := e02.trans e26
    have hb6 := e06 _ _ hb
    have hB6 := hB.ex e26
    -- turned
    refine ⟨_, rfl, b, _, rfl, Evl.sq_of hb6, fun tg htg => ?_⟩
    rw [← List.map_reverse]
    have e7 : Ex H6 (upd H6 tg (.lst (g.reverse.map vo))) := Evl.Ex.new htg
    have g7 : upd H6 tg (.lst (g.reverse.map vo)) tg = some (.lst (g.reverse.map vo)) := upd_same
    generalize upd H6 tg (.lst (g.reverse.map vo)) = H7 at e7 g7 ⊢
    have e07 := e06.trans e7
    have A1 : Asked C H7 bk b .ins rows g B := ⟨hB6.ex e7, hne, few40, ok.nd, ok.its, e07 _ _ hb, sok, cn⟩
    have A2 : Asked C H7 bo tg .fro (mrow rows) g.reverse (mir B) := ⟨hBo.ex e7, neM, by rw [mrow_len]; exact few40, okM.nd, okM.its, g7, sokM, cnM⟩
    -- counts
    refine ⟨_, rfl, _, rfl, rfl, rfl, bk, b, .ins, rows, g, B, rfl, A1, fun H8 e8 => ?_⟩
    refine ⟨_, rfl, _, rfl, rfl, rfl, bo, tg, .fro, mrow rows, g.reverse, mir B, rfl, A2.ex e8, fun H9 e9 => ?_⟩
    rw [mir_cnt htn]
    refine ⟨rfl, false, (by rw [decide_eq_true rfl]; rfl), iteF ?_⟩
    refine ⟨_, rfl, _, rfl, rfl, rfl, bk, b, .ins, rows, g, B, rfl, A1.ex (e8.trans e9), fun H10 e10 => ?_⟩
    have e710 := (e8.trans e9).trans e10
    refine ⟨rfl, decide (V.int (cnt B g) = V.int 0), rfl, ?_⟩
    by_cases z : cnt B g = 0
    · rw [decide_eq_true (by rw [z])]
      refine iteT ?_
      refine ⟨_, rfl, _, rfl, rfl, rfl, bo, tg, .fro, mrow rows, g.reverse, mir B, rfl, A2.ex e710, fun v H11 e11 hv => ?_⟩
      obtain ⟨t, rfl⟩ : ∃ t, v = .ref t := by
        unfold confV at hv
        rw [mir_cnt htn, z] at hv
        simpa using hv
      exact ⟨rfl, q_bl (by simp) (q _ ((e07.trans e710).trans e11))⟩
    rw [decide_eq_false (fun y => z (by injection y))]
    refine iteF ?_
    have hpos : 0 < cnt B g := by have := cnt_nonneg B g; omega
    have hposM : 0 < cnt (mir B) g.reverse := by rw [mir_cnt htn]; exact hpos
    -- shares
    refine ⟨_, rfl, _, rfl, _, rfl, _, rfl, rfl, rfl, bk, b, n, i, .ins, rows, g, B, rfl, A1.ex e710, hnB, by rw [hl]; exact hi, hpos, fun q1 H11 hq1 e11 h11 => ?_⟩
    have e711 := e710.trans e11
    refine ⟨_, rfl, _, rfl, _, rfl, _, _, rfl, rfl, _, rfl, _, _, rfl, rfl, _, rfl, rfl, rfl, bo, tg, n, rows.length - 1 - i, .fro, mrow rows, g.reverse, mir B, ?_, A2.ex e711, hnB, ?_, hposM, fun q2 H12 hq2 e12 h12 => ?_⟩
    · have : ((ts.length : Int) - 1 - (i : Int)) = ((rows.length - 1 - i : Nat) : Int) := by omega
      rw [← this]; rfl
    · show rows.length - 1 - i < B.ns.length
      omega
    have hlw := mir_lw htn (n := n) (i := i) (by rw [glen]; exact hi)
    rw [glen] at hlw
    rw [hlw, mir_cnt htn] at h12
    refine rp_ne (.tup (e12 _ _ h11) (.cons (.int _) (.cons (.int _) .nil))) (.tup h12 (.cons (.int _) (.cons (.int _) .nil))) (by simp [pure0, pureAll]) (by simp [PyData.depth, PyData.depthAll]) ⟨false, rfl, iteF ?_⟩
    have e712 := e711.trans e12
    -- positions
    refine ⟨_, rfl, _, rfl, _, rfl, rfl, rfl, bo, tg, n, .fro, mrow rows, g.reverse, mir B, rfl, A2.ex e712, hnB, hposM, fun q3 H13 hq3 e13 h13 => ?_⟩
    refine ⟨q3, rfl, ⟨_, Evl.sq_of h13⟩, fun M hM => ?_⟩
    have plen : (posF (mir B) g.reverse n).length ≤ 40 := by
      unfold posF
      refine Nat.le_trans (List.length_filter_le _ _) ?_
      rw [List.length_range, List.length_reverse]; omega
    refine lcP (walk_list (xs := (posF (mir B) g.reverse n).map fun i : Nat => V.int (i : Nat))) (fun j : Nat => ((posF (mir B) g.reverse n)[j]?).map fun p : Nat => V.int ((ts.length : Int) - 1 - (p : Int))) hM (by rw [List.length_map]; omega) (fun H14 e => Evl.sq_of (e _ _ h13)) (fun j x H14 H' Qy Qn hj e y k1 k2 => ?_) fun H14 e14 h14 => ?_
    · obtain ⟨rfl, hx⟩ := y
      rw [List.getElem?_map] at hx
      obtain ⟨p, hp, rfl⟩ := Option.map_eq_some_iff.mp hx
      refine ⟨rfl, yes_if ?_⟩
      refine ⟨_, rfl, _, _, rfl, rfl, _, rfl, _, _, rfl, rfl, k1 _ _ (Evl.Ex.refl _) ?_⟩
      rw [hp]; rfl
    have ePos : (List.range ((posF (mir B) g.reverse n).map fun i : Nat => V.int (i : Nat)).length).filterMap (fun j : Nat => ((posF (mir B) g.reverse n)[j]?).map fun p : Nat => V.int ((ts.length : Int) - 1 - (p : Int))) = ((posF (mir B) g.reverse n).map fun p : Nat => g.length - 1 - p).map fun i : Nat => V.int (i : Nat) := by
      rw [List.length_map, List.map_map]
      refine (range_get _ _ _ fun j x hx => by rw [hx]; rfl).trans (List.map_congr_left fun p hp => ?_)
      have : p < g.length := by
        unfold posF at hp
        have := List.mem_range.mp (List.mem_filter.mp hp).1
        rwa [List.length_reverse] at this
      show V.int ((ts.length : Int) - 1 - (p : Int)) = V.int ((g.length - 1 - p : Nat) : Int)
      congr 1
      omega
    rw [ePos] at h14
    have e714 := (e712.trans e13).trans e14
    refine ⟨_, rfl, _, rfl, _, rfl, rfl, rfl, bk, b, n, .ins, rows, g, B, rfl, A1.ex e714, hnB, hpos, fun q4 H15 hq4 e15 h15 => ?_⟩
    refine ⟨_, rfl, M, _, rfl, Evl.sq_of (e15 _ _ h14), fun q5 hq5 => ?_⟩
    have e16 : Ex H15 (upd H15 q5 (.lst (((posF (mir B) g.reverse n).map fun p => g.length - 1 - p).map fun i => V.int (i : Nat)).reverse)) := Evl.Ex.new hq5
    have g16 : upd H15 q5 (.lst (((posF (mir B) g.reverse n).map fun p => g.length - 1 - p).map fun i => V.int (i : Nat)).reverse) q5 = some (.lst ((posF B g n).map fun i => V.int (i : Nat))) := by
      rw [upd_same, ← List.map_reverse, mir_pos htn n]
    generalize upd H15 q5 (.lst (((posF (mir B) g.reverse n).map fun p => g.length - 1 - p).map fun i => V.int (i : Nat)).reverse) = H16 at e16 g16 ⊢
    have dpos : ∀ {Hx : Hp} {qx : Addr}, Hx qx = some (.lst ((posF B g n).map fun i => V.int (i : Nat))) → Dh Hx (.ref qx) (.list ((posF B g n).map fun i => PyData.int (i : Nat))) := fun h => .lst h (dha_map (posF B g n) _ _ fun i _ => .int _)
    have ppos : pure0 (.list ((posF B g n).map fun i => PyData.int (i : Nat))) = true := by
      rw [pure0]; exact pureAll_map _ _ fun _ _ => by rw [pure0]
    have zpos : PyData.depth (.list ((posF B g n).map fun i => PyData.int (i : Nat))) ≤ 64 := by
      rw [PyData.depth]
      have := depthAll_map (posF B g n) (fun i => PyData.int (i : Nat)) 0 fun _ _ => by simp [PyData.depth]
      omega
    refine rp_ne (dpos (e16 _ _ h15)) (dpos g16) ppos zpos ⟨false, rfl, iteF ?_⟩
    have e716 := (e714.trans e15).trans e16
    -- certain
    refine ⟨_, rfl, _, rfl, rfl, rfl, bk, b, .ins, rows, g, B, rfl, A1.ex e716, hpos, fun q6 H17 hq6 e17 h17 => ?_⟩
    have e717 := e716.trans e17
    refine ⟨_, rfl, _, rfl, rfl, rfl, bo, tg, .fro, mrow rows, g.reverse, mir B, rfl, A2.ex e717, hposM, fun q7 H18 hq7 e18 h18 => ?_⟩
    refine ⟨q7, _, rfl, Evl.sq_of h18, fun q8 hq8 => ?_⟩
    have e19 : Ex H18 (upd H18 q8 (.lst ((certF (mir B) g.reverse).map vo).reverse)) := Evl.Ex.new hq8
    have g19 : upd H18 q8 (.lst ((certF (mir B) g.reverse).map vo).reverse) q8 = some (.lst ((certF B g).map vo)) := by
      rw [upd_same, mir_cert htn, List.map_reverse, List.reverse_reverse]
    generalize upd H18 q8 (.lst ((certF (mir B) g.reverse).map vo).reverse) = H19 at e19 g19 ⊢
    have its : ∀ x ∈ B.ns, okItem x := fun x hx => by
      obtain ⟨r, hr1, rfl⟩ := List.mem_map.mp (cn.perm.mem_iff.mpr hx)
      exact ok.its r hr1
    have dcer : ∀ {Hx : Hp} {qx : Addr}, Hx qx = some (.lst ((certF B g).map vo)) → Dh Hx (.ref qx) (.list ((certF B g).map dO)) := fun h => .lst h (dha_map (certF B g) _ _ fun o _ => dh_vo o)
    have pcer : pure0 (.list ((certF B g).map dO)) = true := by
      rw [pure0]
      refine pureAll_map _ _ fun o ho => ?_
      obtain ⟨j, _, rfl⟩ := List.mem_map.mp ho
      cases e : certAt B g j with
      | none => rfl
      | some m => exact item_pure (its m (cert_mem e okg))
    have zcer : PyData.depth (.list ((certF B g).map dO)) ≤ 64 := by
      rw [PyData.depth]
      have := depthAll_map (certF B g) dO 0 fun o _ => by cases o <;> simp [dO, PyData.depth]
      omega
    refine rp_ne (dcer ((e18.trans e19) _ _ h17)) (dcer g19) pcer zcer ⟨false, rfl, iteF ?_⟩
    have e719 := (e717.trans e18).trans e19
    -- few
    refine ⟨_, rfl, _, _, rfl, rfl, _, rfl, ?_⟩
    by_cases h5 : (ts.length : Int) > 5
    · rw [decide_eq_true h5]
      exact iteT (q _ (e07.trans e719))
    rw [decide_eq_false h5]
    refine iteF ?_
    have cnt5 : g.count none ≤ 5 := by
      have := List.count_le_length (l := g) (a := none)
      omega
    have cnt5M : g.reverse.count none ≤ 5 := by rw [List.count_reverse]; exact cnt5
    have okgM : Gok (mir B).ns g.reverse := gok_rev okg
    have lenF : (fills 5 B g).length ≤ 120 := fills_len nd 5 g cnt5 okg
    have lenM : (fills 5 (mir B) g.reverse).length ≤ 120 := fills_len (B := mir B) nd 5 g.reverse cnt5M okgM
    -- the rows there
    refine ⟨_, rfl, _, rfl, rfl, rfl, _, ⟨bo, tg, .fro, mrow rows, g.reverse, mir B, rfl, A2.ex e719, hposM, cnt5M, rfl⟩, ?_, fun S1 H20 rs1 e20 hS1 hl1 hr1 => ?_⟩
    · rw [List.length_map]; exact Nat.le_trans lenM (by decide)
    have e720 := e719.trans e20
    obtain ⟨L1, eL1⟩ : ∃ L1 : List (List Str), L1 = (fills 5 (mir B) g.reverse).map fun x => (itms x).reverse := ⟨_, rfl⟩
    obtain ⟨L2, eL2⟩ : ∃ L2 : List (List Str), L2 = (fills 5 B g).map itms := ⟨_, rfl⟩
    have row1 : ∀ (j : Nat) r x, rs1[j]? = some r → L1[j]? = some x → H20 r = some (.lst (x.map V.str)) := fun j r x h1 h2 => by
      rw [eL1, List.getElem?_map] at h2
      obtain ⟨y, hy, rfl⟩ := Option.map_eq_some_iff.mp h2
      have f := (fills_rows (B := mir B) okgM hposM cnt5M (List.mem_of_getElem? hy)).1
      rw [hr1 j r (y.map vo) h1 (by rw [List.getElem?_map, hy]; rfl)]
      have : y.map vo = (itms y).map V.str := by
        conv => lhs; rw [f]
        exact vo_some _
      rw [this, List.map_reverse]
    have items1 : ∀ x ∈ L1, ∀ s ∈ x, okItem s := fun x hx s hs => by
      rw [eL1] at hx
      obtain ⟨y, hy, rfl⟩ := List.mem_map.mp hx
      exact its s ((fills_rows (B := mir B) okgM hposM cnt5M hy).2 s (by simpa using hs))
    have items2 : ∀ x ∈ L2, ∀ s ∈ x, okItem s := fun x hx s hs => by
      rw [eL2] at hx
      obtain ⟨y, hy, rfl⟩ := List.mem_map.mp hx
      exact its s ((fills_rows okg hpos cnt5 hy).2 s hs)
    have perm12 : L1.Perm L2 := by
      have m := mir_fills htn okg hpos (lt := LtS) cn.asc lex_irr
      have eM : fills 5 (mir B) g.reverse = fills (g.count none) (mir B) g.reverse := by
        have h := fills_any (B := mir B) (g := g.reverse) 5 cnt5M
        rwa [List.count_reverse] at h
      have eB := fills_any (B := B) (g := g) 5 cnt5
      rw [← eM, ← eB] at m
      have m2 := m.map itms
      rw [List.map_map] at m2
      have : (itms ∘ List.reverse : Gv Str → List Str) = fun x => (itms x).reverse := funext fun x => itms_rev x
      rw [this] at m2
      rw [eL1, eL2]
      exact m2
    have asc2 : L2.Pairwise fun x y => lstS x < lstS y := by
      rw [eL2]
      refine List.pairwise_map.mpr ((fills_sorted LtS cn.asc 5 g).imp_of_mem fun {x y} hx hy h => ?_)
      rw [(fills_rows okg hpos cnt5 hx).1, (fills_rows okg hpos cnt5 hy).1] at h
      exact lex_lst h
    have len1 : rs1.length = L1.length := by rw [hl1, eL1, List.length_map, List.length_map]
    have dp1 : DpAll K H20 (rs1.map V.ref) (rowsD L1) := rows_dpa rs1 L1 len1 row1
    have l1000 : (rs1.map V.ref).length ≤ 1000 := by
      rw [List.length_map, hl1, List.length_map]; omega
    -- sorted
    refine ⟨_, rfl, S1, _, rowsD L1, rfl, Evl.sq_of hS1, dp1, alike_rows, sortable_rows, fun d hd => ?_, l1000, fun ps q9 hps hmer hq9 => ?_⟩
    · obtain ⟨x, _, rfl⟩ := List.mem_map.mp hd
      exact Nat.le_trans (row_depth x) (by decide)
    have dps := sorted_dp dp1 hps
    rw [hmer, sort_rows perm12 asc2] at dps
    have e21 : Ex H20 (upd H20 q9 (.lst (ps.map (·.1)))) := Evl.Ex.new hq9
    have g21 : upd H20 q9 (.lst (ps.map (·.1))) q9 = some (.lst (ps.map (·.1))) := upd_same
    generalize upd H20 q9 (.lst (ps.map (·.1))) = H21 at e21 g21 ⊢
    refine ⟨_, rfl, _, rfl, rfl, rfl, _, ⟨bk, b, .ins, rows, g, B, rfl, A1.ex (e720.trans e21), hpos, cnt5, rfl⟩, ?_, fun S2 H22 rs2 e22 hS2 hl2 hr2 => ?_⟩
    · rw [List.length_map]; exact Nat.le_trans lenF (by decide)
    have row2 : ∀ (j : Nat) r x, rs2[j]? = some r → L2[j]? = some x → H22 r = some (.lst (x.map V.str)) := fun j r x h1 h2 => by
      rw [eL2, List.getElem?_map] at h2
      obtain ⟨y, hy, rfl⟩ := Option.map_eq_some_iff.mp h2
      have f := (fills_rows okg hpos cnt5 (List.mem_of_getElem? hy)).1
      rw [hr2 j r (y.map vo) h1 (by rw [List.getElem?_map, hy]; rfl)]
      have : y.map vo = (itms y).map V.str := by
        conv => lhs; rw [f]
        exact vo_some _
      rw [this]
    have len2 : rs2.length = L2.length := by rw [hl2, eL2, List.length_map, List.length_map]
    have d1 : Dp K H22 (.ref q9) (.list (rowsD L2)) := .lst (Evl.sq_of (e22 _ _ g21)) (dpa_ex (e21.trans e22) _ _ dps)
    have d2 : Dp K H22 (.ref S2) (.list (rowsD L2)) := .lst (Evl.sq_of hS2) (rows_dpa rs2 L2 len2 row2)
    have pp := rowsD_pure items2
    have zz : PyData.depth (.list (rowsD L2)) ≤ 64 := Nat.le_trans rowsD_depth (by decide)
    refine ⟨_, _, d1, d2, shaped_of pp zz, shaped_of pp zz, ?_⟩
    rw [(eqv_iff _ _ pp pp).mpr rfl]
    exact q _ (((e07.trans e720).trans e21).trans e22)
end
end K21
/-! ## H2 -/
set_option Elab.async false
set_option linter.all false
set_option maxRecDepth 100000
set_option maxHeartbeats 4000000
/-! From the top to the law. -/
namespace K21
open PySem PySem.Spec PyProof.Rows L2 He
section
variable {P : Program} {w : World} {K : PySem.W.Frag} {h : Heap} {mg : Str → Option Value} {base : Heap}
def cK (K : PySem.W.Frag) (k : Kd) : Addr := ga K (kN k)
theorem sx_d {fa : List Fa} {fn : List DefD} {ps : List FnW} (c : SaysX fa fn ps K) : SaysD fa fn K := congrArg (fun z : AlX => z.1) c
theorem sx_x {fa : List Fa} {fn : List DefD} {ps : List FnW} (c : SaysX fa fn ps K) : xB K = true := congrArg (fun z : AlX => z.2.1) c
theorem sx_p {fa : List Fa} {fn : List DefD} {ps : List FnW} (c : SaysX fa fn ps K) : (propsAt.map fun q => fnA K (pG K (ga K (kN q.1)) q.2)) = ps := congrArg (fun z : AlX => z.2.2) c
theorem int_rel {x : Str} {i : Int} (X : K.In h) (G : h.Ns mainGlobals mg) (c : (Fa.int x i).ok K = true) : ∃ u, mg x = some u ∧ RelV (.int i) u := by
  obtain ⟨t, e⟩ := int_ok X G c
  exact ⟨_, e, t, rfl⟩
theorem str_rel {x z : Str} (X : K.In h) (G : h.Ns mainGlobals mg) (c : (Fa.str x z).ok K = true) : ∃ u, mg x = some u ∧ RelV (.str z) u := by
  obtain ⟨t, e⟩ := str_ok X G c
  exact ⟨_, e, t, rfl⟩
theorem txt_of (X : K.In h) (G : h.Ns mainGlobals mg) (c : SaysX fas dfs prs K) : Txt K mg (cK K) (ga K "Board") (ga K "Record") := by
  obtain ⟨x1, x2⟩ := ba (sx_x c)
  obtain ⟨y1, x2⟩ := ba x2
  obtain ⟨y2, y3⟩ := ba x2
  have xk := fun k => List.all_eq_true.mp x1 k (by cases k <;> simp)
  refine ⟨fun k => ?_, fun k => ?_, fun k => ?_, fun k => conB_ok (ba (xk k)).1, fun k => isiB_ok (ba (ba (xk k)).2).1, eqO_ok y1, of_decide_eq_true y2, fun k => of_decide_eq_true (ba (ba (ba (xk k)).2).2).1, fun k => of_decide_eq_true (ba (ba (ba (ba (xk k)).2).2).2).1, ?_, fun x hx => ?_, ⟨_, glo_ok X G ((sx_d c).fact 43 (f := .glo "Record") rfl), rfl⟩, ⟨_, glo_ok X G ((sx_d c).fact 46 (f := .glo "Fronted") rfl), rfl⟩, mostB_ok y3, int_rel X G ((sx_d c).fact 65 (f := .int "MOST_LETTERS" 8) rfl), int_rel X G ((sx_d c).fact 66 (f := .int "MOST_LOG" 40) rfl), str_rel X G ((sx_d c).fact 67 (f := .str "LETTERS" "abcdefghijklmnopqrstuvwxyz") rfl), str_rel X G ((sx_d c).fact 68 (f := .str "FAR" "far") rfl), str_rel X G ((sx_d c).fact 69 (f := .str "WRONG" "wrong") rfl), str_rel X G ((sx_d c).fact 70 (f := .str "FEW" "few") rfl), free_ok X G ((sx_d c).fact 48 (f := .free "isinstance") rfl), free_ok X G ((sx_d c).fact 49 (f := .free "len") rfl), free_ok X G ((sx_d c).fact 50 (f := .free "int") rfl), free_ok X G ((sx_d c).fact 51 (f := .free "bool") rfl), free_ok X G ((sx_d c).fact 52 (f := .free "str") rfl), free_ok X G ((sx_d c).fact 53 (f := .free "list") rfl), free_ok X G ((sx_d c).fact 54 (f := .free "dict") rfl), free_ok X G ((sx_d c).fact 55 (f := .free "tuple") rfl), free_ok X G ((sx_d c).fact 56 (f := .free "set") rfl), free_ok X G ((sx_d c).fact 57 (f := .free "all") rfl), free_ok X G ((sx_d c).fact 58 (f := .free "sum") rfl), free_ok X G ((sx_d c).fact 59 (f := .free "abs") rfl), free_ok X G ((sx_d c).fact 60 (f := .free "max") rfl), free_ok X G ((sx_d c).fact 61 (f := .free "sorted") rfl), free_ok X G ((sx_d c).fact 62 (f := .free "range") rfl), free_ok X G ((sx_d c).fact 63 (f := .free "enumerate") rfl), free_ok X G ((sx_d c).fact 64 (f := .free "zip") rfl)⟩
  · cases k with
    | ins => exact cls_ok ((sx_d c).fact 71 (f := .cls "Inserted") rfl)
    | rem => exact cls_ok ((sx_d c).fact 73 (f := .cls "Removed") rfl)
    | fro => exact cls_ok ((sx_d c).fact 75 (f := .cls "Fronted") rfl)
  · cases k with
    | ins => exact noat_ok ((sx_d c).fact 79 (f := .noat "Inserted" "held_item") rfl)
    | rem => exact noat_ok ((sx_d c).fact 81 (f := .noat "Removed" "held_item") rfl)
    | fro => exact noat_ok ((sx_d c).fact 83 (f := .noat "Fronted" "held_item") rfl)
  · cases k with
    | ins => exact noat_ok ((sx_d c).fact 80 (f := .noat "Inserted" "held_slot") rfl)
    | rem => exact noat_ok ((sx_d c).fact 82 (f := .noat "Removed" "held_slot") rfl)
    | fro => exact noat_ok ((sx_d c).fact 84 (f := .noat "Fronted" "held_slot") rfl)
  · exact cls_ok ((sx_d c).fact 77 (f := .cls "Board") rfl)
  · rcases List.mem_cons.mp hx with rfl | hx
    · exact noat_ok ((sx_d c).fact 85 (f := .noat "Board" "size") rfl)
    rcases List.mem_cons.mp hx with rfl | hx
    · exact noat_ok ((sx_d c).fact 86 (f := .noat "Board" "is_turned") rfl)
    rcases List.mem_cons.mp hx with rfl | hx
    · exact noat_ok ((sx_d c).fact 87 (f := .noat "Board" "floors") rfl)
    rcases List.mem_cons.mp hx with rfl | hx
    · exact noat_ok ((sx_d c).fact 88 (f := .noat "Board" "given") rfl)
    cases hx
theorem bindsF {x qual : Str} {st : Stmt} {f : Addr} {fd : FuncData} {ps : List Str} (F : L2.Fun K x qual st f fd) (hb : ∀ (kV doc pm : Value) (an : Option Addr) (cdv ct : Value) (us : List Value), us.length = ps.length → bindArgs (PySem.W.fnOf x qual (defArgs st) (defBody st) (defScope st) .none kV doc pm an cdv ct) ⟨us, []⟩ = pure (ps.zip us)) : Binds K fd ps [] := by
  obtain ⟨oc, od, kV, doc, pm, an, cdv, ct, osl, rfl, _⟩ := F.ex
  exact .all (hb kV doc pm an cdv ct)
theorem dp_of (c : SaysX fas dfs prs K) (k : Kd) : DP K (cK K k) "item" "Record.item" sRecord_item ∧ DP K (cK K k) "slot" "Record.slot" sRecord_slot := by
  obtain ⟨x1, _⟩ := ba (sx_x c)
  have xk := (ba (ba (ba (ba (List.all_eq_true.mp x1 k (by cases k <;> simp))).2).2).2).2
  obtain ⟨p1, p2⟩ := ba xk
  have e := sx_p c
  have at_ : ∀ i : Nat, (propsAt.map fun q => fnA K (pG K (ga K (kN q.1)) q.2))[i]? = prs[i]? := fun i => by rw [e]
  have e1 : fnA K (pG K (ga K (kN k)) "item") = prI := by
    cases k with
    | ins => exact Option.some.inj (at_ 0)
    | rem => exact Option.some.inj (at_ 1)
    | fro => exact Option.some.inj (at_ 2)
  have e2 : fnA K (pG K (ga K (kN k)) "slot") = prS := by
    cases k with
    | ins => exact Option.some.inj (at_ 3)
    | rem => exact Option.some.inj (at_ 4)
    | fro => exact Option.some.inj (at_ 5)
  obtain ⟨q1, fd1, F1⟩ := propB_ok (st := sRecord_item) p1 e1
  obtain ⟨q2, fd2, F2⟩ := propB_ok (st := sRecord_slot) p2 e2
  exact ⟨⟨_, _, fd1, q1, F1, bindsF F1 (fun _ _ _ _ _ _ us hl => match us, hl with | [_], _ => rfl)⟩, ⟨_, _, fd2, q2, F2, bindsF F2 (fun _ _ _ _ _ _ us hl => match us, hl with | [_], _ => rfl)⟩⟩
theorem d_is_integer (X : K.In h) (G : h.Ns mainGlobals mg) (c : SaysX fas dfs prs K) : DF K mg "is_integer" sis_integer ["thing", "least", "most"] := by
  obtain ⟨fd, F⟩ := (sx_d c).def_ 0 (d := dF "is_integer" sis_integer) rfl
  have F := fun_of (st := sis_integer) F
  exact ⟨_, fd, F, glo_ok X G ((sx_d c).fact 0 (f := .glo "is_integer") rfl), bindsF F (fun _ _ _ _ _ _ us hl => match us, hl with | [_, _, _], _ => rfl)⟩
theorem d_is_item (X : K.In h) (G : h.Ns mainGlobals mg) (c : SaysX fas dfs prs K) : DF K mg "is_item" sis_item ["thing"] := by
  obtain ⟨fd, F⟩ := (sx_d c).def_ 1 (d := dF "is_item" sis_item) rfl
  have F := fun_of (st := sis_item) F
  exact ⟨_, fd, F, glo_ok X G ((sx_d c).fact 1 (f := .glo "is_item") rfl), bindsF F (fun _ _ _ _ _ _ us hl => match us, hl with | [_], _ => rfl)⟩
theorem d_are_records (X : K.In h) (G : h.Ns mainGlobals mg) (c : SaysX fas dfs prs K) : DF K mg "are_records" sare_records ["thing", "most"] := by
  obtain ⟨fd, F⟩ := (sx_d c).def_ 2 (d := dF "are_records" sare_records) rfl
  have F := fun_of (st := sare_records) F
  exact ⟨_, fd, F, glo_ok X G ((sx_d c).fact 2 (f := .glo "are_records") rfl), bindsF F (fun _ _ _ _ _ _ us hl => match us, hl with | [_, _], _ => rfl)⟩
theorem d_items_of (X : K.In h) (G : h.Ns mainGlobals mg) (c : SaysX fas dfs prs K) : DF K mg "items_of" sitems_of ["log"] := by
  obtain ⟨fd, F⟩ := (sx_d c).def_ 3 (d := dF "items_of" sitems_of) rfl
  have F := fun_of (st := sitems_of) F
  exact ⟨_, fd, F, glo_ok X G ((sx_d c).fact 3 (f := .glo "items_of") rfl), bindsF F (fun _ _ _ _ _ _ us hl => match us, hl with | [_], _ => rfl)⟩
theorem d_is_log (X : K.In h) (G : h.Ns mainGlobals mg) (c : SaysX fas dfs prs K) : DF K mg "is_log" sis_log ["thing"] := by
  obtain ⟨fd, F⟩ := (sx_d c).def_ 4 (d := dF "is_log" sis_log) rfl
  have F := fun_of (st := sis_log) F
  exact ⟨_, fd, F, glo_ok X G ((sx_d c).fact 4 (f := .glo "is_log") rfl), bindsF F (fun _ _ _ _ _ _ us hl => match us, hl with | [_], _ => rfl)⟩
theorem d_need_log (X : K.In h) (G : h.Ns mainGlobals mg) (c : SaysX fas dfs prs K) : DF K mg "need_log" sneed_log ["thing"] := by
  obtain ⟨fd, F⟩ := (sx_d c).def_ 5 (d := dF "need_log" sneed_log) rfl
  have F := fun_of (st := sneed_log) F
  exact ⟨_, fd, F, glo_ok X G ((sx_d c).fact 5 (f := .glo "need_log") rfl), bindsF F (fun _ _ _ _ _ _ us hl => match us, hl with | [_], _ => rfl)⟩
theorem d_need_seen (X : K.In h) (G : h.Ns mainGlobals mg) (c : SaysX fas dfs prs K) : DF K mg "need_seen" sneed_seen ["log", "seen"] := by
  obtain ⟨fd, F⟩ := (sx_d c).def_ 6 (d := dF "need_seen" sneed_seen) rfl
  have F := fun_of (st := sneed_seen) F
  exact ⟨_, fd, F, glo_ok X G ((sx_d c).fact 6 (f := .glo "need_seen") rfl), bindsF F (fun _ _ _ _ _ _ us hl => match us, hl with | [_, _], _ => rfl)⟩
theorem d_turned (c : SaysX fas dfs prs K) : DM K (ga K "Board") "turned" "Board.turned" sBoard_turned ["self", "position"] := by
  obtain ⟨fd, F⟩ := (sx_d c).def_ 43 (d := dM "Board" "turned" "Board.turned" sBoard_turned) rfl
  have F := fun_of (st := sBoard_turned) F
  exact ⟨_, fd, F, meth_ok ((sx_d c).fact 89 (f := .meth "Board" "turned") rfl), bindsF F (fun _ _ _ _ _ _ us hl => match us, hl with | [_, _], _ => rfl)⟩
theorem d_far_items (c : SaysX fas dfs prs K) : DM K (ga K "Board") "far_items" "Board.far_items" sBoard_far_items ["self"] := by
  obtain ⟨fd, F⟩ := (sx_d c).def_ 44 (d := dM "Board" "far_items" "Board.far_items" sBoard_far_items) rfl
  have F := fun_of (st := sBoard_far_items) F
  exact ⟨_, fd, F, meth_ok ((sx_d c).fact 90 (f := .meth "Board" "far_items") rfl), bindsF F (fun _ _ _ _ _ _ us hl => match us, hl with | [_], _ => rfl)⟩
theorem d_wrong_positions (c : SaysX fas dfs prs K) : DM K (ga K "Board") "wrong_positions" "Board.wrong_positions" sBoard_wrong_positions ["self", "given"] := by
  obtain ⟨fd, F⟩ := (sx_d c).def_ 45 (d := dM "Board" "wrong_positions" "Board.wrong_positions" sBoard_wrong_positions) rfl
  have F := fun_of (st := sBoard_wrong_positions) F
  exact ⟨_, fd, F, meth_ok ((sx_d c).fact 91 (f := .meth "Board" "wrong_positions") rfl), bindsF F (fun _ _ _ _ _ _ us hl => match us, hl with | [_, _], _ => rfl)⟩
theorem d_free_places (c : SaysX fas dfs prs K) : DM K (ga K "Board") "free_places" "Board.free_places" sBoard_free_places ["self", "given"] := by
  obtain ⟨fd, F⟩ := (sx_d c).def_ 46 (d := dM "Board" "free_places" "Board.free_places" sBoard_free_places) rfl
  have F := fun_of (st := sBoard_free_places) F
  exact ⟨_, fd, F, meth_ok ((sx_d c).fact 92 (f := .meth "Board" "free_places") rfl), bindsF F (fun _ _ _ _ _ _ us hl => match us, hl with | [_, _], _ => rfl)⟩
theorem d_waiting_bounds (c : SaysX fas dfs prs K) : DM K (ga K "Board") "waiting_bounds" "Board.waiting_bounds" sBoard_waiting_bounds ["self", "given"] := by
  obtain ⟨fd, F⟩ := (sx_d c).def_ 47 (d := dM "Board" "waiting_bounds" "Board.waiting_bounds" sBoard_waiting_bounds) rfl
  have F := fun_of (st := sBoard_waiting_bounds) F
  exact ⟨_, fd, F, meth_ok ((sx_d c).fact 93 (f := .meth "Board" "waiting_bounds") rfl), bindsF F (fun _ _ _ _ _ _ us hl => match us, hl with | [_, _], _ => rfl)⟩
theorem d_spares (c : SaysX fas dfs prs K) : DM K (ga K "Board") "spares" "Board.spares" sBoard_spares ["self", "given"] := by
  obtain ⟨fd, F⟩ := (sx_d c).def_ 48 (d := dM "Board" "spares" "Board.spares" sBoard_spares) rfl
  have F := fun_of (st := sBoard_spares) F
  exact ⟨_, fd, F, meth_ok ((sx_d c).fact 94 (f := .meth "Board" "spares") rfl), bindsF F (fun _ _ _ _ _ _ us hl => match us, hl with | [_, _], _ => rfl)⟩
theorem d_board_of (X : K.In h) (G : h.Ns mainGlobals mg) (c : SaysX fas dfs prs K) : DF K mg "board_of" sboard_of ["log", "seen"] := by
  obtain ⟨fd, F⟩ := (sx_d c).def_ 7 (d := dF "board_of" sboard_of) rfl
  have F := fun_of (st := sboard_of) F
  exact ⟨_, fd, F, glo_ok X G ((sx_d c).fact 7 (f := .glo "board_of") rfl), bindsF F (fun _ _ _ _ _ _ us hl => match us, hl with | [_, _], _ => rfl)⟩
theorem d_with_item (X : K.In h) (G : h.Ns mainGlobals mg) (c : SaysX fas dfs prs K) : DF K mg "with_item" swith_item ["given", "position", "item"] := by
  obtain ⟨fd, F⟩ := (sx_d c).def_ 9 (d := dF "with_item" swith_item) rfl
  have F := fun_of (st := swith_item) F
  exact ⟨_, fd, F, glo_ok X G ((sx_d c).fact 9 (f := .glo "with_item") rfl), bindsF F (fun _ _ _ _ _ _ us hl => match us, hl with | [_, _, _], _ => rfl)⟩
theorem d_count_filled (X : K.In h) (G : h.Ns mainGlobals mg) (c : SaysX fas dfs prs K) : DF K mg "count_filled" scount_filled ["board", "given"] := by
  obtain ⟨fd, F⟩ := (sx_d c).def_ 8 (d := dF "count_filled" scount_filled) rfl
  have F := fun_of (st := scount_filled) F
  exact ⟨_, fd, F, glo_ok X G ((sx_d c).fact 8 (f := .glo "count_filled") rfl), bindsF F (fun _ _ _ _ _ _ us hl => match us, hl with | [_, _], _ => rfl)⟩
theorem d_options (X : K.In h) (G : h.Ns mainGlobals mg) (c : SaysX fas dfs prs K) : DF K mg "options" soptions ["board", "given", "position"] := by
  obtain ⟨fd, F⟩ := (sx_d c).def_ 10 (d := dF "options" soptions) rfl
  have F := fun_of (st := soptions) F
  exact ⟨_, fd, F, glo_ok X G ((sx_d c).fact 10 (f := .glo "options") rfl), bindsF F (fun _ _ _ _ _ _ us hl => match us, hl with | [_, _, _], _ => rfl)⟩
theorem d_conflict_on (X : K.In h) (G : h.Ns mainGlobals mg) (c : SaysX fas dfs prs K) : DF K mg "conflict_on" sconflict_on ["board"] := by
  obtain ⟨fd, F⟩ := (sx_d c).def_ 12 (d := dF "conflict_on" sconflict_on) rfl
  have F := fun_of (st := sconflict_on) F
  exact ⟨_, fd, F, glo_ok X G ((sx_d c).fact 12 (f := .glo "conflict_on") rfl), bindsF F (fun _ _ _ _ _ _ us hl => match us, hl with | [_], _ => rfl)⟩
theorem d_need_lists (X : K.In h) (G : h.Ns mainGlobals mg) (c : SaysX fas dfs prs K) : DF K mg "need_lists" sneed_lists ["board"] := by
  obtain ⟨fd, F⟩ := (sx_d c).def_ 13 (d := dF "need_lists" sneed_lists) rfl
  have F := fun_of (st := sneed_lists) F
  exact ⟨_, fd, F, glo_ok X G ((sx_d c).fact 13 (f := .glo "need_lists") rfl), bindsF F (fun _ _ _ _ _ _ us hl => match us, hl with | [_], _ => rfl)⟩
theorem d_count (X : K.In h) (G : h.Ns mainGlobals mg) (c : SaysX fas dfs prs K) : DK K mg "count" scount ["log", "seen"] 1 := by
  obtain ⟨fd, F⟩ := (sx_d c).def_ 14 (d := dF "count" scount) rfl
  have F := fun_of (st := scount) F
  exact ⟨_, fd, F, glo_ok X G ((sx_d c).fact 14 (f := .glo "count") rfl), kbn_of F (fun _ _ _ _ _ _ us ws hl hw => match us, ws, hl, hw with | [_], [_], _, _ => rfl)⟩
theorem d_conflict (X : K.In h) (G : h.Ns mainGlobals mg) (c : SaysX fas dfs prs K) : DK K mg "conflict" sconflict ["log", "seen"] 1 := by
  obtain ⟨fd, F⟩ := (sx_d c).def_ 15 (d := dF "conflict" sconflict) rfl
  have F := fun_of (st := sconflict) F
  exact ⟨_, fd, F, glo_ok X G ((sx_d c).fact 15 (f := .glo "conflict") rfl), kbn_of F (fun _ _ _ _ _ _ us ws hl hw => match us, ws, hl, hw with | [_], [_], _, _ => rfl)⟩
theorem d_nth_list (X : K.In h) (G : h.Ns mainGlobals mg) (c : SaysX fas dfs prs K) : DK K mg "nth_list" snth_list ["log", "number", "seen"] 2 := by
  obtain ⟨fd, F⟩ := (sx_d c).def_ 16 (d := dF "nth_list" snth_list) rfl
  have F := fun_of (st := snth_list) F
  exact ⟨_, fd, F, glo_ok X G ((sx_d c).fact 16 (f := .glo "nth_list") rfl), kbn_of F (fun _ _ _ _ _ _ us ws hl hw => match us, ws, hl, hw with | [_, _], [_], _, _ => rfl)⟩
theorem d_need_item (X : K.In h) (G : h.Ns mainGlobals mg) (c : SaysX fas dfs prs K) : DF K mg "need_item" sneed_item ["board", "item"] := by
  obtain ⟨fd, F⟩ := (sx_d c).def_ 21 (d := dF "need_item" sneed_item) rfl
  have F := fun_of (st := sneed_item) F
  exact ⟨_, fd, F, glo_ok X G ((sx_d c).fact 21 (f := .glo "need_item") rfl), bindsF F (fun _ _ _ _ _ _ us hl => match us, hl with | [_, _], _ => rfl)⟩
theorem d_lists_with (X : K.In h) (G : h.Ns mainGlobals mg) (c : SaysX fas dfs prs K) : DF K mg "lists_with" slists_with ["board", "item", "position"] := by
  obtain ⟨fd, F⟩ := (sx_d c).def_ 22 (d := dF "lists_with" slists_with) rfl
  have F := fun_of (st := slists_with) F
  exact ⟨_, fd, F, glo_ok X G ((sx_d c).fact 22 (f := .glo "lists_with") rfl), bindsF F (fun _ _ _ _ _ _ us hl => match us, hl with | [_, _, _], _ => rfl)⟩
theorem d_lowest_terms (X : K.In h) (G : h.Ns mainGlobals mg) (c : SaysX fas dfs prs K) : DF K mg "lowest_terms" slowest_terms ["top", "bottom"] := by
  obtain ⟨fd, F⟩ := (sx_d c).def_ 24 (d := dF "lowest_terms" slowest_terms) rfl
  have F := fun_of (st := slowest_terms) F
  exact ⟨_, fd, F, glo_ok X G ((sx_d c).fact 24 (f := .glo "lowest_terms") rfl), bindsF F (fun _ _ _ _ _ _ us hl => match us, hl with | [_, _], _ => rfl)⟩
theorem d_positions (X : K.In h) (G : h.Ns mainGlobals mg) (c : SaysX fas dfs prs K) : DK K mg "positions" spositions ["log", "item", "seen"] 2 := by
  obtain ⟨fd, F⟩ := (sx_d c).def_ 23 (d := dF "positions" spositions) rfl
  have F := fun_of (st := spositions) F
  exact ⟨_, fd, F, glo_ok X G ((sx_d c).fact 23 (f := .glo "positions") rfl), kbn_of F (fun _ _ _ _ _ _ us ws hl hw => match us, ws, hl, hw with | [_, _], [_], _, _ => rfl)⟩
theorem d_share (X : K.In h) (G : h.Ns mainGlobals mg) (c : SaysX fas dfs prs K) : DK K mg "share" sshare ["log", "item", "position", "seen"] 3 := by
  obtain ⟨fd, F⟩ := (sx_d c).def_ 25 (d := dF "share" sshare) rfl
  have F := fun_of (st := sshare) F
  exact ⟨_, fd, F, glo_ok X G ((sx_d c).fact 25 (f := .glo "share") rfl), kbn_of F (fun _ _ _ _ _ _ us ws hl hw => match us, ws, hl, hw with | [_, _, _], [_], _, _ => rfl)⟩
theorem d_certain (X : K.In h) (G : h.Ns mainGlobals mg) (c : SaysX fas dfs prs K) : DK K mg "certain" scertain ["log", "seen"] 1 := by
  obtain ⟨fd, F⟩ := (sx_d c).def_ 20 (d := dF "certain" scertain) rfl
  have F := fun_of (st := scertain) F
  exact ⟨_, fd, F, glo_ok X G ((sx_d c).fact 20 (f := .glo "certain") rfl), kbn_of F (fun _ _ _ _ _ _ us ws hl hw => match us, ws, hl, hw with | [_], [_], _, _ => rfl)⟩
theorem d_is_filling (X : K.In h) (G : h.Ns mainGlobals mg) (c : SaysX fas dfs prs K) : DF K mg "is_filling" sis_filling ["board", "items"] := by
  obtain ⟨fd, F⟩ := (sx_d c).def_ 17 (d := dF "is_filling" sis_filling) rfl
  have F := fun_of (st := sis_filling) F
  exact ⟨_, fd, F, glo_ok X G ((sx_d c).fact 17 (f := .glo "is_filling") rfl), bindsF F (fun _ _ _ _ _ _ us hl => match us, hl with | [_, _], _ => rfl)⟩
theorem d_list_number (X : K.In h) (G : h.Ns mainGlobals mg) (c : SaysX fas dfs prs K) : DK K mg "list_number" slist_number ["log", "items", "seen"] 2 := by
  obtain ⟨fd, F⟩ := (sx_d c).def_ 18 (d := dF "list_number" slist_number) rfl
  have F := fun_of (st := slist_number) F
  exact ⟨_, fd, F, glo_ok X G ((sx_d c).fact 18 (f := .glo "list_number") rfl), kbn_of F (fun _ _ _ _ _ _ us ws hl hw => match us, ws, hl, hw with | [_, _], [_], _, _ => rfl)⟩
theorem d_feed (X : K.In h) (G : h.Ns mainGlobals mg) (c : SaysX fas dfs prs K) : DF K mg "_law_feed" slaw_feed ["_law_script", "_law_k"] := by
  obtain ⟨fd, F⟩ := (sx_d c).def_ 26 (d := dF "_law_feed" slaw_feed) rfl
  have F := fun_of (st := slaw_feed) F
  exact ⟨_, fd, F, glo_ok X G ((sx_d c).fact 26 (f := .glo "_law_feed") rfl), bindsF F (fun _ _ _ _ _ _ us hl => match us, hl with | [_, _], _ => rfl)⟩
theorem d_pick (X : K.In h) (G : h.Ns mainGlobals mg) (c : SaysX fas dfs prs K) : DF K mg "_law_pick" slaw_pick ["_law_feed_here", "_law_wide"] := by
  obtain ⟨fd, F⟩ := (sx_d c).def_ 27 (d := dF "_law_pick" slaw_pick) rfl
  have F := fun_of (st := slaw_pick) F
  exact ⟨_, fd, F, glo_ok X G ((sx_d c).fact 27 (f := .glo "_law_pick") rfl), bindsF F (fun _ _ _ _ _ _ us hl => match us, hl with | [_, _], _ => rfl)⟩
theorem d_shuffle (X : K.In h) (G : h.Ns mainGlobals mg) (c : SaysX fas dfs prs K) : DF K mg "_law_shuffle" slaw_shuffle ["_law_feed_here", "_law_values"] := by
  obtain ⟨fd, F⟩ := (sx_d c).def_ 28 (d := dF "_law_shuffle" slaw_shuffle) rfl
  have F := fun_of (st := slaw_shuffle) F
  exact ⟨_, fd, F, glo_ok X G ((sx_d c).fact 28 (f := .glo "_law_shuffle") rfl), bindsF F (fun _ _ _ _ _ _ us hl => match us, hl with | [_, _], _ => rfl)⟩
theorem d_names (X : K.In h) (G : h.Ns mainGlobals mg) (c : SaysX fas dfs prs K) : DF K mg "_law_names" slaw_names ["_law_feed_here", "_law_many"] := by
  obtain ⟨fd, F⟩ := (sx_d c).def_ 29 (d := dF "_law_names" slaw_names) rfl
  have F := fun_of (st := slaw_names) F
  exact ⟨_, fd, F, glo_ok X G ((sx_d c).fact 29 (f := .glo "_law_names") rfl), bindsF F (fun _ _ _ _ _ _ us hl => match us, hl with | [_, _], _ => rfl)⟩
theorem d_slots (X : K.In h) (G : h.Ns mainGlobals mg) (c : SaysX fas dfs prs K) : DF K mg "_law_slots" slaw_slots ["_law_feed_here", "_law_kind", "_law_many"] := by
  obtain ⟨fd, F⟩ := (sx_d c).def_ 30 (d := dF "_law_slots" slaw_slots) rfl
  have F := fun_of (st := slaw_slots) F
  exact ⟨_, fd, F, glo_ok X G ((sx_d c).fact 30 (f := .glo "_law_slots") rfl), bindsF F (fun _ _ _ _ _ _ us hl => match us, hl with | [_, _, _], _ => rfl)⟩
theorem d_model (X : K.In h) (G : h.Ns mainGlobals mg) (c : SaysX fas dfs prs K) : DF K mg "_law_model" slaw_model ["_law_feed_here", "_law_most"] := by
  obtain ⟨fd, F⟩ := (sx_d c).def_ 31 (d := dF "_law_model" slaw_model) rfl
  have F := fun_of (st := slaw_model) F
  exact ⟨_, fd, F, glo_ok X G ((sx_d c).fact 31 (f := .glo "_law_model") rfl), bindsF F (fun _ _ _ _ _ _ us hl => match us, hl with | [_, _], _ => rfl)⟩
theorem d_record (X : K.In h) (G : h.Ns mainGlobals mg) (c : SaysX fas dfs prs K) : DF K mg "_law_record" slaw_record ["_law_kind", "_law_name", "_law_slot"] := by
  obtain ⟨fd, F⟩ := (sx_d c).def_ 32 (d := dF "_law_record" slaw_record) rfl
  have F := fun_of (st := slaw_record) F
  exact ⟨_, fd, F, glo_ok X G ((sx_d c).fact 32 (f := .glo "_law_record") rfl), bindsF F (fun _ _ _ _ _ _ us hl => match us, hl with | [_, _, _], _ => rfl)⟩
theorem d_book (X : K.In h) (G : h.Ns mainGlobals mg) (c : SaysX fas dfs prs K) : DF K mg "_law_book" slaw_book ["_law_model_here"] := by
  obtain ⟨fd, F⟩ := (sx_d c).def_ 33 (d := dF "_law_book" slaw_book) rfl
  have F := fun_of (st := slaw_book) F
  exact ⟨_, fd, F, glo_ok X G ((sx_d c).fact 33 (f := .glo "_law_book") rfl), bindsF F (fun _ _ _ _ _ _ us hl => match us, hl with | [_], _ => rfl)⟩
theorem d_may (X : K.In h) (G : h.Ns mainGlobals mg) (c : SaysX fas dfs prs K) : DF K mg "_law_may" slaw_may ["_law_model_here", "_law_name", "_law_spot"] := by
  obtain ⟨fd, F⟩ := (sx_d c).def_ 34 (d := dF "_law_may" slaw_may) rfl
  have F := fun_of (st := slaw_may) F
  exact ⟨_, fd, F, glo_ok X G ((sx_d c).fact 34 (f := .glo "_law_may") rfl), bindsF F (fun _ _ _ _ _ _ us hl => match us, hl with | [_, _, _], _ => rfl)⟩
theorem d_some_list (X : K.In h) (G : h.Ns mainGlobals mg) (c : SaysX fas dfs prs K) : DF K mg "_law_some_list" slaw_some_list ["_law_feed_here", "_law_model_here"] := by
  obtain ⟨fd, F⟩ := (sx_d c).def_ 36 (d := dF "_law_some_list" slaw_some_list) rfl
  have F := fun_of (st := slaw_some_list) F
  exact ⟨_, fd, F, glo_ok X G ((sx_d c).fact 36 (f := .glo "_law_some_list") rfl), bindsF F (fun _ _ _ _ _ _ us hl => match us, hl with | [_, _], _ => rfl)⟩
theorem d_sights (X : K.In h) (G : h.Ns mainGlobals mg) (c : SaysX fas dfs prs K) : DF K mg "_law_sights" slaw_sights ["_law_feed_here", "_law_model_here"] := by
  obtain ⟨fd, F⟩ := (sx_d c).def_ 35 (d := dF "_law_sights" slaw_sights) rfl
  have F := fun_of (st := slaw_sights) F
  exact ⟨_, fd, F, glo_ok X G ((sx_d c).fact 35 (f := .glo "_law_sights") rfl), bindsF F (fun _ _ _ _ _ _ us hl => match us, hl with | [_, _], _ => rfl)⟩
theorem d_same (X : K.In h) (G : h.Ns mainGlobals mg) (c : SaysX fas dfs prs K) : DF K mg "_law_same" slaw_same ["_law_found", "_law_due"] := by
  obtain ⟨fd, F⟩ := (sx_d c).def_ 37 (d := dF "_law_same" slaw_same) rfl
  have F := fun_of (st := slaw_same) F
  exact ⟨_, fd, F, glo_ok X G ((sx_d c).fact 37 (f := .glo "_law_same") rfl), bindsF F (fun _ _ _ _ _ _ us hl => match us, hl with | [_, _], _ => rfl)⟩
theorem d_facts (X : K.In h) (G : h.Ns mainGlobals mg) (c : SaysX fas dfs prs K) : DF K mg "_law_facts" slaw_facts ["_law_book_here", "_law_sights_here", "_law_name", "_law_spot", "_law_ranks"] := by
  obtain ⟨fd, F⟩ := (sx_d c).def_ 38 (d := dF "_law_facts" slaw_facts) rfl
  have F := fun_of (st := slaw_facts) F
  exact ⟨_, fd, F, glo_ok X G ((sx_d c).fact 38 (f := .glo "_law_facts") rfl), bindsF F (fun _ _ _ _ _ _ us hl => match us, hl with | [_, _, _, _, _], _ => rfl)⟩
theorem d_renamed (X : K.In h) (G : h.Ns mainGlobals mg) (c : SaysX fas dfs prs K) : DF K mg "_law_renamed_right" slaw_renamed_right ["_law_feed_here", "_law_kind", "_law_rows", "_law_sights_here", "_law_name", "_law_spot", "_law_ranks"] := by
  obtain ⟨fd, F⟩ := (sx_d c).def_ 40 (d := dF "_law_renamed_right" slaw_renamed_right) rfl
  have F := fun_of (st := slaw_renamed_right) F
  exact ⟨_, fd, F, glo_ok X G ((sx_d c).fact 40 (f := .glo "_law_renamed_right") rfl), bindsF F (fun _ _ _ _ _ _ us hl => match us, hl with | [_, _, _, _, _, _, _], _ => rfl)⟩
theorem d_right (X : K.In h) (G : h.Ns mainGlobals mg) (c : SaysX fas dfs prs K) : DF K mg "_law_right" slaw_right ["_law_feed_here", "_law_kind", "_law_rows", "_law_sights_here"] := by
  obtain ⟨fd, F⟩ := (sx_d c).def_ 41 (d := dF "_law_right" slaw_right) rfl
  have F := fun_of (st := slaw_right) F
  exact ⟨_, fd, F, glo_ok X G ((sx_d c).fact 41 (f := .glo "_law_right") rfl), bindsF F (fun _ _ _ _ _ _ us hl => match us, hl with | [_, _, _, _], _ => rfl)⟩
theorem d_mirror (X : K.In h) (G : h.Ns mainGlobals mg) (c : SaysX fas dfs prs K) : DF K mg "_law_mirror_right" slaw_mirror_right ["_law_rows", "_law_sights_here", "_law_name", "_law_spot"] := by
  obtain ⟨fd, F⟩ := (sx_d c).def_ 39 (d := dF "_law_mirror_right" slaw_mirror_right) rfl
  have F := fun_of (st := slaw_mirror_right) F
  exact ⟨_, fd, F, glo_ok X G ((sx_d c).fact 39 (f := .glo "_law_mirror_right") rfl), bindsF F (fun _ _ _ _ _ _ us hl => match us, hl with | [_, _, _, _], _ => rfl)⟩
theorem d_fillings (X : K.In h) (G : h.Ns mainGlobals mg) (c : SaysX fas dfs prs K) : DF K mg "fillings" sfillings ["board", "given"] := by
  obtain ⟨fd, F⟩ := (sx_d c).def_ 11 (d := dF "fillings" sfillings) rfl
  have F := fun_of (st := sfillings) F
  exact ⟨_, fd, F, glo_ok X G ((sx_d c).fact 11 (f := .glo "fillings") rfl), bindsF F (fun _ _ _ _ _ _ us hl => match us, hl with | [_, _], _ => rfl)⟩
theorem d_possible (X : K.In h) (G : h.Ns mainGlobals mg) (c : SaysX fas dfs prs K) : DK K mg "possible_lists" spossible_lists ["log", "seen"] 1 := by
  obtain ⟨fd, F⟩ := (sx_d c).def_ 19 (d := dF "possible_lists" spossible_lists) rfl
  have F := fun_of (st := spossible_lists) F
  exact ⟨_, fd, F, glo_ok X G ((sx_d c).fact 19 (f := .glo "possible_lists") rfl), kbn_of F (fun _ _ _ _ _ _ us ws hl hw => match us, ws, hl, hw with | [_], [_], _, _ => rfl)⟩
theorem d_board (X : K.In h) (G : h.Ns mainGlobals mg) (c : SaysX fas dfs prs K) : DC K mg "Board" (ga K "Board") "Board.__init__" sBoard___init ["self", "log", "seen"] := by
  obtain ⟨fd, F⟩ := (sx_d c).def_ 49 (d := dM "Board" "__init__" "Board.__init__" sBoard___init) rfl
  have F := fun_of (st := sBoard___init) F
  exact ⟨_, fd, F, mkr_ok ((sx_d c).fact 78 (f := .mkr "Board") rfl), glo_ok X G ((sx_d c).fact 47 (f := .glo "Board") rfl), bindsF F (fun _ _ _ _ _ _ us hl => match us, hl with | [_, _, _], _ => rfl)⟩
theorem d_ins (X : K.In h) (G : h.Ns mainGlobals mg) (c : SaysX fas dfs prs K) : DC K mg "Inserted" (cK K .ins) "Record.__init__" sRecord___init ["self", "item", "slot"] := by
  obtain ⟨fd, F⟩ := (sx_d c).def_ 50 (d := dM "Inserted" "__init__" "Record.__init__" sRecord___init) rfl
  have F := fun_of (st := sRecord___init) F
  exact ⟨_, fd, F, mkr_ok ((sx_d c).fact 72 (f := .mkr "Inserted") rfl), glo_ok X G ((sx_d c).fact 44 (f := .glo "Inserted") rfl), bindsF F (fun _ _ _ _ _ _ us hl => match us, hl with | [_, _, _], _ => rfl)⟩
theorem d_rem (X : K.In h) (G : h.Ns mainGlobals mg) (c : SaysX fas dfs prs K) : DC K mg "Removed" (cK K .rem) "Record.__init__" sRecord___init ["self", "item", "slot"] := by
  obtain ⟨fd, F⟩ := (sx_d c).def_ 51 (d := dM "Removed" "__init__" "Record.__init__" sRecord___init) rfl
  have F := fun_of (st := sRecord___init) F
  exact ⟨_, fd, F, mkr_ok ((sx_d c).fact 74 (f := .mkr "Removed") rfl), glo_ok X G ((sx_d c).fact 45 (f := .glo "Removed") rfl), bindsF F (fun _ _ _ _ _ _ us hl => match us, hl with | [_, _, _], _ => rfl)⟩
theorem d_fro (X : K.In h) (G : h.Ns mainGlobals mg) (c : SaysX fas dfs prs K) : DC K mg "Fronted" (cK K .fro) "Record.__init__" sRecord___init ["self", "item", "slot"] := by
  obtain ⟨fd, F⟩ := (sx_d c).def_ 52 (d := dM "Fronted" "__init__" "Record.__init__" sRecord___init) rfl
  have F := fun_of (st := sRecord___init) F
  exact ⟨_, fd, F, mkr_ok ((sx_d c).fact 76 (f := .mkr "Fronted") rfl), glo_ok X G ((sx_d c).fact 46 (f := .glo "Fronted") rfl), bindsF F (fun _ _ _ _ _ _ us hl => match us, hl with | [_, _, _], _ => rfl)⟩
theorem chain (X : K.In h) (G : h.Ns mainGlobals mg) (c : SaysX fas dfs prs K) : OBody P w K mg base Nlaw "law" slaw 25 (spLaw K) := by
  have T := txt_of X G c
  have c_is_integer := cal_is_integer (P := P) (w := w) (base := base) (d_is_integer X G c) T 
  have c_is_item := cal_is_item (P := P) (w := w) (base := base) (d_is_item X G c) T 
  have c_item : ∀ k, Prp P w K mg base 1 (cK K k) "item" (spItem (cK K k)) := fun k => prp_item T (dp_of c k).1
  have c_slot : ∀ k, Prp P w K mg base 1 (cK K k) "slot" (spSlot (cK K k)) := fun k => prp_slot T (dp_of c k).2
  have c_are_records := cal_are_records (P := P) (w := w) (base := base) (d_are_records X G c) T 
  have c_items_of := cal_items_of (P := P) (w := w) (base := base) (d_items_of X G c) T c_item
  have c_is_log := cal_is_log (P := P) (w := w) (base := base) (d_is_log X G c) T c_are_records c_items_of
  have c_need_log := cal_need_log (P := P) (w := w) (base := base) (d_need_log X G c) T c_is_log
  have c_need_seen := cal_need_seen (P := P) (w := w) (base := base) (d_need_seen X G c) T c_item
  have c_turned := met_turned (P := P) (w := w) (base := base) (d_turned c) T 
  have c_far_items := met_far_items (P := P) (w := w) (base := base) (d_far_items c) T 
  have c_wrong_positions := met_wrong_positions (P := P) (w := w) (base := base) (d_wrong_positions c) T c_turned
  have c_free_places := met_free_places (P := P) (w := w) (base := base) (d_free_places c) T c_turned
  have c_waiting_bounds := met_waiting_bounds (P := P) (w := w) (base := base) (d_waiting_bounds c) T 
  have c_spares := met_spares (P := P) (w := w) (base := base) (d_spares c) T c_free_places c_waiting_bounds
  have c_Board := mak_board (P := P) (w := w) (base := base) (d_board X G c) T c_item c_slot c_turned
  have c_board_of := cal_board_of (P := P) (w := w) (base := base) (d_board_of X G c) T c_need_log c_need_seen c_Board
  have c_with_item := cal_with_item (P := P) (w := w) (base := base) (d_with_item X G c) T 
  have c_count_filled := cal_count_filled (P := P) (w := w) (base := base) (d_count_filled X G c) T c_far_items c_wrong_positions c_spares
  have c_options := cal_options (P := P) (w := w) (base := base) (d_options X G c) T c_count_filled c_with_item
  have c_conflict_on := cal_conflict_on (P := P) (w := w) (base := base) (d_conflict_on X G c) T c_far_items c_wrong_positions c_spares c_turned
  have c_need_lists := cal_need_lists (P := P) (w := w) (base := base) (d_need_lists X G c) T c_conflict_on
  have c_count := can_count (P := P) (w := w) (base := base) (d_count X G c) T c_board_of c_count_filled
  have c_conflict := can_conflict (P := P) (w := w) (base := base) (d_conflict X G c) T c_board_of c_conflict_on
  have c_nth_list := can_nth_list (P := P) (w := w) (base := base) (d_nth_list X G c) T c_board_of c_count_filled c_options c_with_item
  have c_need_item := cal_need_item (P := P) (w := w) (base := base) (d_need_item X G c) T 
  have c_lists_with := cal_lists_with (P := P) (w := w) (base := base) (d_lists_with X G c) T c_count_filled c_with_item
  have c_lowest_terms := cal_lowest_terms (P := P) (w := w) (base := base) (d_lowest_terms X G c) T 
  have c_positions := can_positions (P := P) (w := w) (base := base) (d_positions X G c) T c_board_of c_need_item c_need_lists c_lists_with
  have c_share := can_share (P := P) (w := w) (base := base) (d_share X G c) T c_board_of c_need_item c_need_lists c_lists_with c_count_filled c_lowest_terms
  have c_certain := can_certain (P := P) (w := w) (base := base) (d_certain X G c) T c_board_of c_need_lists c_options
  have c_is_filling := cal_is_filling (P := P) (w := w) (base := base) (d_is_filling X G c) T c_count_filled
  have c_list_number := can_list_number (P := P) (w := w) (base := base) (d_list_number X G c) T c_board_of c_is_filling c_options c_with_item
  have c__law_feed := cal_feed (P := P) (w := w) (base := base) (d_feed X G c) T 
  have c__law_pick := cal_pick (P := P) (w := w) (base := base) (d_pick X G c) T 
  have c__law_shuffle := cal_shuffle (P := P) (w := w) (base := base) (d_shuffle X G c) T c__law_pick
  have c__law_names := cal_names (P := P) (w := w) (base := base) (d_names X G c) T c__law_shuffle
  have c__law_slots := cal_slots (P := P) (w := w) (base := base) (d_slots X G c) T c__law_pick c__law_shuffle
  have c__law_model := cal_model (P := P) (w := w) (base := base) (d_model X G c) T c__law_pick c__law_names c__law_slots
  have c__law_may := cal_may (P := P) (w := w) (base := base) (d_may X G c) T 
  have c__law_some_list := cal_some_list (P := P) (w := w) (base := base) (d_some_list X G c) T c__law_pick c__law_may
  have c__law_sights := cal_sights (P := P) (w := w) (base := base) (d_sights X G c) T c__law_pick c__law_shuffle c__law_some_list
  have c__law_same := cal_same (P := P) (w := w) (base := base) (d_same X G c) T 4
  have c__law_facts := cal_facts (P := P) (w := w) (base := base) (d_facts X G c) T c_count c_nth_list c_positions c_share c_certain c_list_number
  have c_Inserted : C8.Mak P w K mg base 2 "Inserted" (cK K .ins) (spInit (cK K .ins)) [] := mak_rec T c_is_item c_is_integer (d_ins X G c)
  have c_Removed : C8.Mak P w K mg base 2 "Removed" (cK K .rem) (spInit (cK K .rem)) [] := mak_rec T c_is_item c_is_integer (d_rem X G c)
  have c_Fronted : C8.Mak P w K mg base 2 "Fronted" (cK K .fro) (spInit (cK K .fro)) [] := mak_rec T c_is_item c_is_integer (d_fro X G c)
  have c_fillings := gcal_fillings (P := P) (w := w) (base := base) (d_fillings X G c) T c_options c_with_item 5
  have c_possible_lists := gcan_possible (d_possible X G c) T c_board_of c_conflict_on c_fillings
  have c__law_record := cal_record (P := P) (w := w) (base := base) (d_record X G c) T c_Inserted c_Removed c_Fronted
  have c__law_book := cal_book (P := P) (w := w) (base := base) (d_book X G c) T c__law_record
  have c__law_renamed_right := cal_renamed (P := P) (w := w) (base := base) (d_renamed X G c) T c__law_facts c__law_book
  have c__law_mirror_right := cal_mirror (P := P) (w := w) (base := base) (d_mirror X G c) T c__law_book c_count c_conflict c_share c_positions c_certain c_possible_lists
  have c__law_right := cal_right (P := P) (w := w) (base := base) (d_right X G c) T c__law_pick c__law_shuffle c__law_book c__law_facts c__law_same c__law_mirror_right c__law_renamed_right
  exact law_body T c__law_feed c__law_pick c__law_model c__law_sights c__law_right
end
end K21
/-! ## S12 -/
set_option maxHeartbeats 4000000
set_option Elab.async false
set_option linter.all false
set_option maxRecDepth 100000
/-! From the wide triple to the claim. -/
namespace K21
open PySem PySem.Spec PyProof.Rows L2 PySem.W
theorem wide_callFrom {c : ClaimW} {tree : List Value → Sem PySem.Fin} {w : World} {s : Shared} {free : Addr → Prop} {gens : Prop} {kept : Heap → Prop} (hz : s.asleep) (hgens : s.gens = #[])
    (hspec : ∀ args, c.pre args = true → WData.layableAll args = true → ∀ ord : List DictEntry → List DictEntry, (∀ l, (ord l).Perm l) →
      ∃ vs s₁, layAllW c.records (classAt s.heap) w.params ord args s = some (vs, s₁) ∧
        RunsOn (model c.prog w) callerA (tree vs) (fun fin s' => ∃ f, fin = .done f ∧ (c.Ends s args vs s₁ (.ok f) s' ∧ s'.os = s.os ∧ AllBare s'.gens ∧ kept s'.heap)) NoE s₁) :
    c.CallFrom (fun vs => ⟨tree vs, .builtin "claim.caller" {}, default, []⟩) w free gens kept s := by
  intro args hpre hlay ord hord
  obtain ⟨vs, s₁, hlaid, hrun⟩ := hspec args hpre hlay ord hord
  have rest := layAllW_rest _ _ _ hlaid
  obtain ⟨n, r, t, t', hs, hf, hl, h1, h2, h3⟩ := on_ends (prog := c.prog) (w := w) (t := tree vs) (R := fun r s' => c.Ends s args vs s₁ r s' ∧ s'.os = s.os ∧ kept s'.heap) (Shared.asleep_of_life rest.2.2.2 hz) caller_in
    (on_mono hrun (fun fin s' ⟨f, e, a, b, d, k⟩ => ⟨f, e, ⟨a, b, k⟩, leftWithCleanup_false_of_bare d⟩) fun _ _ z => z.elim)
  obtain ⟨eh, _, _, eo, _⟩ := Shared.forget_eq hf
  have h1' : c.Ends s args vs s₁ r t' := h1.congr eh
  have h3' : kept t'.heap := by rw [eh]; exact h3
  have h2' : t'.os = s.os := eo.trans h2
  refine ⟨vs, s₁, hlaid, n, _, t', hs, ?_, (fun _ i x hx => by rw [hgens] at hx; simp at hx), h3', by rw [hl.trans rest.2.2.2], Shared.rest_eq h2'⟩
  rcases h1' with ⟨v, rfl, d1, d2, d3, d4, d5⟩ | ⟨e, ob, cls, rfl, d1, d2, d3, d4, d5⟩
  · exact .inl ⟨v, rfl, d1, d2, d3, fun b o y _ => d4 b o y, d5⟩
  · exact .inr ⟨e, ob, cls, rfl, d1, d2, d3, d4, fun b o y _ => d5 b o y⟩
end K21
/-! ## S13 -/
set_option Elab.async false
set_option linter.all false
set_option maxRecDepth 100000
set_option maxHeartbeats 2000000
/-! The law's call in the wide triple. -/
namespace K21
open PySem PySem.Spec PyProof.Rows L2
section
variable {P : Program} {w : World} {K : PySem.W.Frag} {mg mb : Str → Option Value} {k : Nat} {fa a : Addr} {fd : FuncData} {x : Str} {sp : Sp} {s : Shared} {vs : List Value} {ns : List Int}
theorem wide_core {H : Hp} (KX : K.In s.heap) (hns : s.heap.Ns mainGlobals mg) (hb : s.heap.Ns builtinsNs mb) (hbb : ∀ x : Str, x ≠ "__name__" → mb x = bootBuiltins x) (hlim : s.heap.NoLimit) (hg : s.gens = #[])
    (ha : s.heap.get? a = some { cls := .type "list", data := .seq vs.toArray }) (hr : Room k callerA)
    (F : ∀ base : Heap, K.In base → base.Ns mainGlobals mg → OFn P w K mg base k fa fd [x] sp) (hbind : ∀ (s : Shared) (u : Value), BindsTo s fd ⟨[u], []⟩ [(x, u)])
    (hO : Only H) (hsp : sp [.ref a] H (fun v _ => v = .bl true) E0) (hok : HOk P w H s.heap) (hA : ∀ b, H b ≠ none → b = a) (hK : H a ≠ none → K.lookup a = none) :
    CodeOn (model P w) callerA (.call (.ref fa) ⟨[.ref a], []⟩) (fun r s' => r = .ok (.ret (.bool true)) ∧ OldK s.heap s'.heap ∧ s'.os = s.os ∧ AllBare s'.gens) s := by
  have up : ∀ {b : Addr} {o : Obj}, s.heap.get? b = some o → (b = a → H a = none) → (hidT s.heap H).get? b = some o := fun {b o} e h => by
    refine hidT_get e ?_
    cases q : H b with
    | none => rfl
    | some u =>
      have ba : b = a := hA b (by rw [q]; exact fun z => by cases z)
      have := h ba
      rw [← ba, q] at this
      cases this
  have ns' : ∀ {b : Addr} {m : Str → Option Value}, s.heap.Ns b m → (hidT s.heap H).Ns b m := fun {b m} ⟨o, es, ep, e, d, r⟩ => ⟨o, es, ep, (up e fun z => by
    subst z
    rw [ha] at e
    cases e
    exact absurd d (fun z => by cases z)), d, r⟩
  have kin : K.In (hidT s.heap H) := fun b o e => up (KX b o e) fun z => by
    subst z
    cases q : H b with
    | none => rfl
    | some u => rw [hK (by rw [q]; exact fun z => by cases z)] at e; cases e
  obtain ⟨mc, h1, h2⟩ := hlim
  have md : Mod K mg (hidT s.heap H) := ⟨kin, ns' hns, ⟨mb, ns' hb, hbb⟩, ⟨mc, ns' h1, h2⟩⟩
  have e0 : Env0 P w K mg (hidT s.heap H) callerA [] s H := ⟨rfl, md, fun b o e => of_hidT e, Nat.le_of_eq (hidT_size _ _), trivial, fun b z => (nomatch (show b ∈ ([] : List Addr) from z)), hok, .of_eq hg⟩
  refine code_mono ((F _ kin (ns' hns)).run callerA [] s H ⟨[.ref a], []⟩ [.ref a] [.ref a] _ E0 hr e0 (hbind s (.ref a)) (.cons rfl .nil) hsp) fun r s' h => ?_
  have no : ∀ b : Addr, b ∉ ([] : List Addr) := fun b z => nomatch z
  match r, h with
  | .ok (.ret u), ⟨v, H', os, bare, un, hok', rv, q⟩ =>
    have q' : v = .bl true := q
    subst q'
    obtain rfl : u = Value.bool true := rv
    refine ⟨rfl, OldK.of_keep fun b o e => ?_, os, bare⟩
    cases q : H b with
    | none => exact un.keep b o e q (no b) (no b)
    | some u =>
      rcases hO b with z | ⟨o2, xs, z⟩
      · rw [q] at z; cases z
      · obtain ⟨e1, _⟩ := hok b _ z
        rw [e] at e1
        cases e1
        exact (hok' b _ (un.frzs b _ _ z)).1
theorem wide_law (KX : K.In s.heap) (hns : s.heap.Ns mainGlobals mg) (hb : s.heap.Ns builtinsNs mb) (hbb : ∀ x : Str, x ≠ "__name__" → mb x = bootBuiltins x) (hlim : s.heap.NoLimit) (hg : s.gens = #[])
    (ha : s.heap.get? a = some { cls := .type "list", data := .seq vs.toArray }) (hi : IntsAre vs ns) (hl : ns.length ≤ sizeLine) (hr : Room k callerA)
    (F : ∀ base : Heap, K.In base → base.Ns mainGlobals mg → OFn P w K mg base k fa fd [x] sp) (hbind : ∀ (s : Shared) (u : Value), BindsTo s fd ⟨[u], []⟩ [(x, u)])
    (hsp : ∀ H : Hp, Only H → SqL K H a (ns.map V.int) → sp [.ref a] H (fun v _ => v = .bl true) E0) :
    CodeOn (model P w) callerA (.call (.ref fa) ⟨[.ref a], []⟩) (fun r s' => r = .ok (.ret (.bool true)) ∧ OldK s.heap s'.heap ∧ s'.os = s.os ∧ AllBare s'.gens) s := by
  have rv := vals_ints hi
  cases hk : K.lookup a with
  | some o =>
    have e := KX a o hk
    rw [ha] at e
    cases e
    have hO : Only (fun _ => none) := fun _ => .inl rfl
    exact wide_core KX hns hb hbb hlim hg ha hr F hbind hO (hsp _ hO (.inr ⟨_, vs.toArray, _, hk, rfl, rfl, rfl, by rw [List.size_toArray, hi.length]; exact hl, by simpa using rv⟩)) (fun b u z => nomatch z) (fun b z => absurd rfl z) fun z => absurd rfl z
  | none =>
    let H : Hp := fun b => if b = a then some (.frz { cls := .type "list", data := .seq vs.toArray } (.lst (ns.map V.int))) else none
    have h1 : H a = some (.frz { cls := .type "list", data := .seq vs.toArray } (.lst (ns.map V.int))) := if_pos rfl
    have h2 : ∀ b, b ≠ a → H b = none := fun b z => if_neg z
    have hO : Only H := fun b => by
      by_cases z : b = a
      · subst z; exact .inr ⟨_, _, h1⟩
      · exact .inl (h2 b z)
    refine wide_core KX hns hb hbb hlim hg ha hr F hbind hO (hsp H hO (.inl (.inr ⟨_, h1⟩))) (fun b u z => ?_) (fun b z => ?_) fun _ => hk
    · by_cases y : b = a
      · subst y
        rw [h1] at z
        cases z
        exact ⟨ha, by rw [List.length_map]; exact hl, vs, _, rv, ha⟩
      · rw [h2 b y] at z; cases z
    · by_cases y : b = a
      · exact y
      · exact absurd (h2 b y) z
end
end K21
/-! ## S14 -/
set_option Elab.async false
set_option linter.all false
set_option maxRecDepth 100000
set_option maxHeartbeats 2000000
/-! The row from the wide walk. -/
namespace K21
open PySem PySem.Spec PySem.Calls PyProof.Rows L2 PySem.W
abbrev WideO (q : Program) (loose : List PySem.Str) (XP : (PySem.Str → Option Value) → Heap → Prop) (YP : World → Heap → Prop) (r : RowW) (d : DefRec) (kwd : List (PySem.Str × PySem.Expr)) : Prop :=
  ∀ (w : World) (s₀ s : Shared) (mg mb : PySem.Str → Option Value), Ground q loose r.records XP w s₀ mg mb s.heap → YP w s.heap → ∀ (a : Addr) (o : Obj) (pm cd doc dV kV : Value), s.heap.get? a = some o →
    o.data = .func { docDef d.name d.params d.body d.scope pm cd doc with defaults := dV, kwdefaults := kV } → s.heap.CodeRec cd d.name → Dflts mg s.heap d.params kwd dV kV → mg d.name = some (.ref a) → s.gens = #[] →
    ∀ (args : List WData) (us : List Value) (as : List Addr), r.claim.pre args = true → WData.layableAll args = true → ReadsAllW r.records (classAt s₀.heap) s.heap us args as → WellAll w.params s.heap us args → (∀ a ∈ as, (a == sysModules) = false) →
      RunsOn (model r.prog w) callerA (PySem.call (.ref a) us) (fun v s' => GoodWG r.claim (classAt s₀.heap) (ExcName.means s₀.heap) args s (.ok (.ret v)) s') NoE s
theorem wide_holds {r : OpenRow} {q : Program} {loose : List PySem.Str} {Xt : Shared → Bool} {XP : (PySem.Str → Option Value) → Heap → Prop} {α : Type} {Yf : Shared → α} {Ya : World → α} {YP : World → Heap → Prop} {d : DefRec} {kwd : List (PySem.Str × PySem.Expr)} {N : Nat}
    (left : LeftO r.prog q loose Xt Yf Ya N) (hY : ∀ w s, Yf s = Ya w → YP w s.heap) (hYk : ∀ w h h', YP w h → (∀ b o, h.get? b = some o → h'.get? b = some o) → YP w h')
    (hX : ∀ s, Xt s = true → XP (s.heap.nsMap mainGlobals) s.heap) (hXk : ∀ mg h h', XP mg h → (∀ b o, h.get? b = some o → h'.get? b = some o) → XP mg h')
    (hdef : defOf q r.name = some (d, kwd)) (hp : r.prog.theDef r.name = some (d.params, d.body, d.scope)) (hk : kwWritten? d.params.kwonlyargs d.params.kw_defaults = some kwd) (hRf : ∀ s, Xt s = true → RecFacts r.records s.heap) (hwr : (!r.writes || r.records.isEmpty) = true)
    (k1 : r.wellSaid = true) (ok : (chainsOk q && opensWell r.prog && (frees r.toRowW && r.within.isEmpty)) = true) (hb : r.prog.bare) (hw : r.toRowW.promised)
    (walk : WideO q loose XP YP r.toRowW d kwd) : r.Holds := by
  obtain ⟨ok, k5⟩ := Bool.and_eq_true_iff.mp ok
  obtain ⟨hch, o1⟩ := Bool.and_eq_true_iff.mp ok
  obtain ⟨k5, k6⟩ := Bool.and_eq_true_iff.mp k5
  obtain ⟨hsame, hu, ha, hap, hm⟩ := frees_parts k5
  refine ⟨k1, hw, ⟨⟨hb, o1, by show r.toRowW.makers.map _ = []; rw [hm]; rfl⟩, hw.witness, fun w => ?_⟩⟩
  have bh := left.behind (XP := fun mg h => XP mg h ∧ RecFacts r.records h) (fun s hs => ⟨hX s hs, hRf s hs⟩) hch w
  refine ⟨bh.1, fun s' hs' => ?_⟩
  obtain ⟨s₀, hf, hg0, s, hT, hz, hgs, hg, GG, y⟩ := bh.2 s' hs'
  have G0 : Ground q loose [] XP w s (s.heap.nsMap mainGlobals) (s.heap.nsMap builtinsNs) s.heap := { GG with X := GG.X.1 }
  have RF := GG.X.2
  have gens0 : s.gens = #[] := Array.eq_empty_of_size_eq_zero (beq_iff_eq.mp hgs)
  refine ⟨s₀, hf, hg0, s, hT, fun n hn => ?_, RF.1, RF.2.1, wide_callFrom (c := r.toRowW.claim) hz gens0 fun args hpre hlay ord hord => ?_⟩
  · obtain rfl : n = r.name := by split at hn <;> simp_all
    exact pinned_of_view hg G0 hdef hp hk
  · have G : Ground q loose r.records XP w s _ _ s.heap := RF.ground G0
    obtain ⟨⟨vs, s₁⟩, hlaid⟩ := Option.isSome_iff_exists.mp (layAllW_isSome (P := w.params) (ord := ord) G.has args r.toRowW.args s (pre_splitW hpre).1)
    have keeps := layAllW_keeps _ _ _ hlaid
    have rest := layAllW_rest _ _ _ hlaid
    obtain ⟨as, hrd, hin, hold⟩ := reads_layAllW hord _ _ _ hlaid hlay s₁.heap (fun _ _ e => e)
    have L : Laid r.records w s s₁ args vs as := ⟨⟨ord, hord, hlaid⟩, hrd, hin, hold, keeps, rest.1.trans gens0, rest.2.2.1⟩
    have G₁ := G.keeps hXk keeps
    obtain ⟨a, o, pm, cd, doc, dV, kV, h1, h2, h3, h4, h5⟩ := G₁.fn hdef
    have run := walk w s s₁ _ _ G₁ (hYk _ _ _ (hY w s y) keeps) a o pm cd doc dV kV h2 h3 h4 h5 (defOf_name hdef ▸ h1) L.gens args vs as hpre hlay L.reads L.well (L.low G.low)
    refine ⟨vs, s₁, hlaid, ?_⟩
    refine on_bind (on_of (wpAny_nsGet G₁.T.g ?_))
    rw [h1]
    refine on_bind (on_mono run (fun v t g => on_pure ⟨_, rfl, ?_⟩) fun _ _ z => z.elim)
    have z := g.laid (c := r.toRowW.claim) hsame (List.isEmpty_iff.mp k6) (ident_freeW hu ha hap) L
    exact ⟨z.1, z.2.1, z.2.2, fun q => ⟨namesKept_of hT hg _ keeps g.2.1.old, noTable hwr q⟩⟩
end K21
/-! ## S15 -/
set_option Elab.async false
set_option linter.all false
set_option maxRecDepth 100000
set_option maxHeartbeats 2000000
/-! The law's head in the wide triple. -/
namespace K21
open PySem PySem.Spec PySem.Calls PyProof.Rows L2 PySem.W HandSHeadRun
theorem wide_head {r : OpenRow} {q : Program} {H : Hook} {ob : SharedT → H.α} {M : Nat} {loose : List PySem.Str} {d : DefRec} {kwd : List (PySem.Str × PySem.Expr)} (ho : ∀ s : SharedT, ob s = H.obs s.abs)
    (e : opening r.prog = plainProg r.prog.main.scope.names) (f : ∀ s, fenceModules? r.prog s = some s) (run : ∀ w, RunEq r q H ob M loose w)
    (hdef : defOf q r.name = some (d, kwd)) (hp : r.prog.theDef r.name = some (d.params, d.body, d.scope)) (hk : kwWritten? d.params.kwonlyargs d.params.kw_defaults = some kwd)
    (hwr : (!r.writes || r.records.isEmpty) = true) (k1 : r.wellSaid = true) (ok : (chainsOk q && opensWell r.prog && (frees r.toRowW && r.within.isEmpty)) = true) (hb : r.prog.bare) (hw : r.toRowW.promised)
    (walk : WideO q loose (XL q []) H.says r.toRowW d kwd) : r.Holds :=
  wide_holds (left_one (M := M) (N := M + 600) (Xt := fun s => xlAt q [] s && recOk r.toRowW.records s) (Yf := H.obs) (Ya := H.val) e (Nat.ble_eq_true_of_le (by omega)) f (Nat.ble_eq_true_of_le (by omega)) fun w os => by
      have z := run w os
      rw [show ob = fun s => H.obs s.abs from funext ho] at z
      simp only [endQ_eq, seenQ_eq]
      exact z) H.of H.keeps (fun s z => xl_of s (Bool.and_eq_true_iff.mp z).1) XL.keeps hdef hp hk (fun s z => recFacts_of (Bool.and_eq_true_iff.mp z).2) hwr k1 ok hb hw walk
theorem wide_attach {l : OpenLaw} {n k : Nat} {q : Program} {loose : List PySem.Str} {XP : (PySem.Str → Option Value) → Heap → Prop} {YP : World → Heap → Prop} {d : DefRec} {x : PySem.Str} (hn : l.most = some n) (hn2 : n ≤ sizeLine) (hdf : d.params.defaults = []) (hr : Room k callerA)
    (F : ∀ (w : World) (mg : PySem.Str → Option Value) (fa : Addr) (h : Heap), YP w h → h.Ns mainGlobals mg → mg d.name = some (.ref fa) →
      ∃ (K : PySem.W.Frag) (fd : FuncData) (sp : Sp), K.In h ∧ (∀ (s : Shared) (u : Value), BindsTo s fd ⟨[u], []⟩ [(x, u)]) ∧
        (∀ (H : Hp) (a : Addr) (ns : List Int), ns.length ≤ n → Only H → SqL K H a (ns.map V.int) → sp [.ref a] H (fun v _ => v = .bl true) E0) ∧
        ∀ base : Heap, K.In base → base.Ns mainGlobals mg → OFn l.prog w K mg base k fa fd [x] sp) : WideO q loose XP YP l.row.toRowW d [] := by
  intro w s₀ s mg mb G Y fa o pm cd doc dV kV ho hd hcd hD hmg hg args us as hpre hlay hrd hwl hlo
  obtain ⟨a, vs, ns, rfl, rfl, hobj, hints, hlen⟩ := Att.script_of hn hpre hwl
  obtain ⟨K, fd, sp, KX, hb, hsp, hF⟩ := F w mg fa _ Y G.T.g hmg
  refine on_call (code_mono (wide_law KX G.T.g G.T.b G.T.builtins G.T.nolimit hg hobj hints (Nat.le_trans hlen hn2) hr hF hb fun H hO hS => hsp H a ns hlen hO hS) fun r s' hq => ?_)
  obtain ⟨rfl, h2, h3, h4⟩ := hq
  exact ⟨.inl ⟨.bool true, .bool true, [], rfl, fun _ => rfl, .bool true, Att.post_true l _, fun _ => ⟨List.Pairwise.nil, fun _ hm => (nomatch hm)⟩⟩, h2, h3, h4⟩
end K21
/-! ## H3 -/
set_option Elab.async false
set_option linter.all false
set_option maxRecDepth 100000
set_option maxHeartbeats 0
/-! The end. -/
namespace K21
open PySem PySem.Spec PyProof.Rows L2 He
theorem facts {w : World} {K : PySem.W.Frag} {h : Heap} {mg : Str → Option Value} {f : Addr} (X : K.In h) (G : h.Ns mainGlobals mg) (hfa : mg ("law" : Str) = some (.ref f)) (c : SaysX fas dfs prs K) :
    ∃ fd : FuncData, (∀ (s : Shared) (v : Value), BindsTo s fd ⟨[v], []⟩ [("_law_script", v)]) ∧ ∀ base : Heap, K.In base → base.Ns mainGlobals mg → OFn RW.prog w K mg base 26 f fd ["_law_script"] (spLaw K) := by
  obtain ⟨fd, F⟩ := (sx_d c).def_ 42 (d := dF "law" slaw) rfl
  have F2 := fun_of (st := slaw) F
  have e := hfa.symm.trans (glo_ok X G ((sx_d c).fact 42 (f := .glo "law") rfl))
  injection e with e
  injection e with e
  subst e
  have b := FunD.bindsA (ps := ["_law_script"]) F fun _ _ _ _ _ _ us hl => match us, hl with | [_], _ => rfl
  exact ⟨fd, fun s v => b s [v] rfl, fun base hb1 hb2 => fun_ofn F2 sclaw (fun vs H Q E h => law_len h) (chain X G c)⟩
theorem holds_all : RW.Holds := by
  w_on; o_law
  refine wide_head (r := R) (q := PySem.W.view R.prog [81]) (H := hk) (ob := ob) (M := 20000) (loose := nms) (d := HandSHeadRun.topDef R.prog 81) (kwd := []) ob_eq
    (by kernel_rfl) (fun s => by kernel_rfl) runTop (by kernel_rfl) (by kernel_rfl) (by kernel_rfl) (by rfl) (by first | assumption | decide +kernel) (by decide +kernel) ⟨rfl, rfl, rfl, rfl, rfl, by decide +kernel⟩ ?hw ?hc
  case hw => w_witness2
  case hc =>
    refine wide_attach (l := RW) (n := 63) (k := 26) (x := "_law_script") rfl (by decide) (by kernel_rfl) ⟨rfl, by decide, by decide⟩ ?F
    intro w mg fa h Y G hmg0
    obtain ⟨K, KX, c⟩ := Y
    have hmg : mg ("law" : PySem.Str) = some (.ref fa) := by
      have e : (HandSHeadRun.topDef R.prog 81).name = ("law" : PySem.Str) := by kernel_rfl
      rw [← e]
      exact hmg0
    obtain ⟨fd, hb, hF⟩ := facts (w := w) KX G hmg c
    exact ⟨K, fd, spLaw K, KX, hb, fun H a ns hl _ hS => ⟨a, ns, rfl, hS, fun _ => rfl⟩, hF⟩
end K21
theorem PySem.Challenge.cw_indexlogs_k21_whole_kinds_and_other_name_holds : PySem.Challenge.rw_indexlogs_k21_whole_kinds_and_other_name.Holds := by
  exact K21.holds_all
