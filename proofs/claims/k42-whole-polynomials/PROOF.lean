import PyProof.Rows.All
import Wide.All
import OpenK.AllK
import Wide.FinOn
import HandS.ForMost
import HandS.Wide
import HandS.WideBits
import HandS.Gcd
import HandS.IsInst
import HandS.Conv
import HandS.Walk
import HandS.DictComp
import KE.GoesNew
import KE.KMathGC
import PyProof.ReprRoads
import HandS.More
import HandS.FStrTup
import PySem.Challenge.RW_bandsplits_k42_whole_polynomials_of_powe
set_option linter.all false
namespace K42
/-! ### fractions as rational numbers -/
theorem mk_num {n : Int} {m : Nat} (h : m ≠ 0) : (mkRat n m).num = n / ((Nat.gcd n.natAbs m : Nat) : Int) := by
  rw [Rat.num_mkRat, if_neg h, Nat.gcd_comm]
theorem mk_den {n : Int} {m : Nat} (h : m ≠ 0) : (mkRat n m).den = m / Nat.gcd n.natAbs m := by
  rw [Rat.den_mkRat, if_neg h, Nat.gcd_comm]
theorem den_pos (q : Rat) : (0 : Int) < (q.den : Int) := Int.natCast_pos.mpr (Nat.pos_of_ne_zero q.den_nz)
theorem add_mk (p q : Rat) : p + q = mkRat (p.num * q.den + q.num * p.den) (p.den * q.den) := Rat.add_def' p q
theorem mul_mk (p q : Rat) : p * q = mkRat (p.num * q.num) (p.den * q.den) := Rat.mul_def' p q
theorem den1_num {q : Rat} (h : q.den = 1) : q = ((q.num : Int) : Rat) := Rat.ext rfl h
theorem add_one_one {p q : Rat} (hp : p.den = 1) (hq : q.den = 1) : (p + q).num = p.num + q.num ∧ (p + q).den = 1 := by
  rw [den1_num hp, den1_num hq, ← Rat.intCast_add]
  exact ⟨rfl, rfl⟩
theorem mul_one_one {p q : Rat} (hp : p.den = 1) (hq : q.den = 1) : (p * q).num = p.num * q.num ∧ (p * q).den = 1 := by
  rw [den1_num hp, den1_num hq, ← Rat.intCast_mul]
  exact ⟨rfl, rfl⟩
/-- a whole number over 84, of a bounded size -/
def Bd (B : Nat) (q : Rat) : Prop := ∃ N : Int, (84 : Rat) * q = (N : Rat) ∧ N.natAbs ≤ B
theorem Bd.mono {A B : Nat} {q : Rat} (h : Bd A q) (l : A ≤ B) : Bd B q := let ⟨N, e, z⟩ := h; ⟨N, e, Nat.le_trans z l⟩
theorem Bd.zero (B : Nat) : Bd B 0 := ⟨0, by rw [Rat.mul_zero]; rfl, Nat.zero_le _⟩
theorem Bd.add {A B : Nat} {p q : Rat} (h : Bd A p) (k : Bd B q) : Bd (A + B) (p + q) := by
  obtain ⟨N, e, z⟩ := h
  obtain ⟨M, f, y⟩ := k
  refine ⟨N + M, ?_, ?_⟩
  · rw [Rat.intCast_add, ← e, ← f, Rat.mul_add]
  · exact Nat.le_trans (Int.natAbs_add_le N M) (Nat.add_le_add z y)
theorem Bd.mulInt {A : Nat} {p : Rat} (h : Bd A p) (n : Int) {B : Nat} (hn : n.natAbs ≤ B) : Bd (A * B) (p * (n : Rat)) := by
  obtain ⟨N, e, z⟩ := h
  refine ⟨N * n, ?_, ?_⟩
  · rw [Rat.intCast_mul, ← e, Rat.mul_assoc]
  · rw [Int.natAbs_mul]
    exact Nat.mul_le_mul z hn
theorem Bd.eq84 {A : Nat} {q : Rat} (h : Bd A q) : ∃ N : Int, q.num * 84 = N * (q.den : Int) ∧ N.natAbs ≤ A := by
  obtain ⟨N, e, z⟩ := h
  refine ⟨N, ?_, z⟩
  have e2 : mkRat (84 * q.num) (1 * q.den) = mkRat N 1 := by
    have h1 : (84 : Rat) = mkRat 84 1 := by rfl
    have h2 : (N : Rat) = mkRat N 1 := by rw [Rat.mkRat_eq_div]; grind
    rw [← Rat.mkRat_mul_mkRat, Rat.mkRat_self, ← h1, ← h2]
    exact e
  have hd : (1 * q.den) ≠ 0 := by rw [Nat.one_mul]; exact q.den_nz
  have e3 := (Rat.mkRat_eq_iff hd (by decide)).mp e2
  simp only [Nat.one_mul] at e3
  have e4 : ((1 : Nat) : Int) = 1 := rfl
  rw [e4, Int.mul_one] at e3
  rw [Int.mul_comm q.num 84]
  exact e3
theorem Bd.dvd {A : Nat} {q : Rat} (h : Bd A q) : q.den ∣ 84 := by
  obtain ⟨N, e, _⟩ := h.eq84
  have hc : Nat.Coprime q.den q.num.natAbs := (Nat.Coprime.symm q.reduced)
  refine hc.dvd_of_dvd_mul_left ?_
  have e2 : (q.num * 84).natAbs = (N * (q.den : Int)).natAbs := congrArg Int.natAbs e
  rw [Int.natAbs_mul, Int.natAbs_mul] at e2
  have e3 : ((q.den : Nat) : Int).natAbs = q.den := Int.natAbs_natCast _
  rw [e3] at e2
  have e4 : (84 : Int).natAbs = 84 := rfl
  rw [e4] at e2
  rw [e2]
  exact Nat.dvd_mul_left _ _
theorem Bd.den {A : Nat} {q : Rat} (h : Bd A q) : q.den ≤ 84 := Nat.le_of_dvd (by decide) h.dvd
theorem Bd.num {A : Nat} {q : Rat} (h : Bd A q) : q.num.natAbs ≤ A := by
  have hd := h.den
  obtain ⟨N, e, z⟩ := h.eq84
  have e2 : (q.num * 84).natAbs = (N * (q.den : Int)).natAbs := congrArg Int.natAbs e
  rw [Int.natAbs_mul, Int.natAbs_mul, Int.natAbs_natCast] at e2
  have e4 : (84 : Int).natAbs = 84 := rfl
  rw [e4] at e2
  have h3 : N.natAbs * q.den ≤ N.natAbs * 84 := Nat.mul_le_mul_left _ hd
  omega
/-- small enough for all operations -/
structure Sm (q : Rat) : Prop where
  num : q.num.natAbs < 2 ^ 250
  den : q.den < 2 ^ 250
theorem Bd.sm {A : Nat} {q : Rat} (h : Bd A q) (l : A < 2 ^ 250) : Sm q :=
  ⟨Nat.lt_of_le_of_lt h.num l, Nat.lt_of_le_of_lt h.den (Nat.lt_of_lt_of_le (show 84 < 2 ^ 7 by decide) (Nat.pow_le_pow_right (by decide) (by decide)))⟩
theorem Sm.int {n : Int} (h : n.natAbs < 2 ^ 250) : Sm (n : Rat) := ⟨h, by show 1 < 2 ^ 250; exact Nat.one_lt_two_pow (by decide)⟩
theorem Sm.zero : Sm 0 := ⟨by show 0 < 2 ^ 250; exact Nat.two_pow_pos _, by show 1 < 2 ^ 250; exact Nat.one_lt_two_pow (by decide)⟩

/-! ### sums -/
def tot : List Rat → Rat
  | [] => 0
  | x :: r => x + tot r
theorem tot_nil : tot [] = 0 := rfl
theorem tot_cons (x : Rat) (r : List Rat) : tot (x :: r) = x + tot r := rfl
theorem tot_append : ∀ l m : List Rat, tot (l ++ m) = tot l + tot m
  | [], m => by rw [List.nil_append, tot_nil, Rat.zero_add]
  | x :: l, m => by rw [List.cons_append, tot_cons, tot_cons, tot_append l m, Rat.add_assoc]
theorem tot_snoc (l : List Rat) (x : Rat) : tot (l ++ [x]) = tot l + x := by
  rw [tot_append, tot_cons, tot_nil, Rat.add_zero]
theorem tot_bd {B : Nat} : ∀ {l : List Rat}, (∀ x ∈ l, Bd B x) → Bd (l.length * B) (tot l)
  | [], _ => Bd.zero _
  | x :: l, h => by
    have h1 := h x List.mem_cons_self
    have h2 := tot_bd (l := l) fun y hy => h y (List.mem_cons_of_mem _ hy)
    rw [tot_cons]
    refine (h1.add h2).mono ?_
    rw [List.length_cons, Nat.succ_mul]
    omega
theorem tot_take {l : List Rat} {i : Nat} {x : Rat} (h : l[i]? = some x) : tot (l.take (i + 1)) = tot (l.take i) + x := by
  rw [List.take_add_one, h]
  exact tot_snoc _ _
theorem tot_mul (c : Rat) : ∀ l : List Rat, tot (l.map fun x => x * c) = tot l * c
  | [] => by rw [List.map_nil, tot_nil, Rat.zero_mul]
  | x :: l => by rw [List.map_cons, tot_cons, tot_cons, tot_mul c l, Rat.add_mul]
theorem tot_add {α : Type} (f g : α → Rat) : ∀ l : List α, tot (l.map fun x => f x + g x) = tot (l.map f) + tot (l.map g)
  | [] => by simp only [List.map_nil, tot_nil]; exact (Rat.zero_add 0).symm
  | x :: l => by
    simp only [List.map_cons, tot_cons]
    rw [tot_add f g l]
    grind
theorem tot_zero {α : Type} {f : α → Rat} : ∀ {l : List α}, (∀ x ∈ l, f x = 0) → tot (l.map f) = 0
  | [], _ => rfl
  | x :: l, h => by
    rw [List.map_cons, tot_cons, h x List.mem_cons_self, tot_zero (l := l) fun y hy => h y (List.mem_cons_of_mem _ hy), Rat.zero_add]

/-! ### lots: numbers at places -/
abbrev L1 := List (Int × Rat)
def look : L1 → Int → Rat
  | [], _ => 0
  | p :: r, k => if p.1 = k then p.2 else look r k
theorem look_none {L : L1} {k : Int} (h : k ∉ L.map (·.1)) : look L k = 0 := by
  induction L with
  | nil => rfl
  | cons p r ih =>
    rw [List.map_cons, List.mem_cons, not_or] at h
    unfold look
    rw [if_neg fun e => h.1 e.symm]
    exact ih h.2
theorem look_mem {L : L1} {k : Int} {q : Rat} (nd : (L.map (·.1)).Nodup) (h : (k, q) ∈ L) : look L k = q := by
  induction L with
  | nil => cases h
  | cons p r ih =>
    rw [List.map_cons, List.nodup_cons] at nd
    unfold look
    rcases List.mem_cons.mp h with e | h
    · rw [← e, if_pos rfl]
    · rw [if_neg fun e => nd.1 (by rw [e]; exact List.mem_map.mpr ⟨_, h, rfl⟩)]
      exact ih nd.2 h
theorem look_or {L : L1} {k : Int} (nd : (L.map (·.1)).Nodup) : look L k = 0 ∨ (k, look L k) ∈ L := by
  by_cases h : k ∈ L.map (·.1)
  · obtain ⟨p, hp, e⟩ := List.mem_map.mp h
    subst e
    rw [look_mem (q := p.2) nd hp]
    exact .inr hp
  · exact .inl (look_none h)
theorem look_bd {L : L1} {k : Int} {B : Nat} (nd : (L.map (·.1)).Nodup) (h : ∀ p ∈ L, Bd B p.2) : Bd B (look L k) := by
  rcases look_or (k := k) nd with e | e
  · rw [e]; exact Bd.zero _
  · exact h _ e
/-- what a lot makes of the j-th powers, at the place n -/
def made (L : L1) (n : Int) (j : Nat) : Rat := tot (L.map fun p => p.2 * (((n - p.1) ^ j : Int) : Rat))

/-- the sum over a lot, by the places of a range -/
theorem range_single (f : Int → Rat) (lo k : Int) (v : Rat) : ∀ n : Nat, lo ≤ k → k < lo + n → tot ((List.range n).map fun i : Nat => (if k = lo + (i : Int) then v else 0) * f (lo + i)) = v * f k := by
  intro n h0 h1
  induction n with
  | zero => omega
  | succ n ih =>
    rw [List.range_succ, List.map_append, tot_append]
    simp only [List.map_cons, List.map_nil, tot_cons, tot_nil, Rat.add_zero]
    by_cases e : k = lo + n
    · rw [if_pos e, e, tot_zero (fun i hi => ?_), Rat.zero_add]
      rw [if_neg (by have := List.mem_range.mp hi; omega), Rat.zero_mul]
    · rw [if_neg e, Rat.zero_mul, Rat.add_zero]
      exact ih (by omega)
theorem range_lot (f : Int → Rat) (lo : Int) (n : Nat) : ∀ L : L1, (L.map (·.1)).Nodup → (∀ p ∈ L, lo ≤ p.1 ∧ p.1 < lo + n) →
    tot ((List.range n).map fun i : Nat => look L (lo + i) * f (lo + i)) = tot (L.map fun p => p.2 * f p.1)
  | [], _, _ => by
    rw [List.map_nil, tot_nil]
    exact tot_zero fun i _ => by unfold look; rw [Rat.zero_mul]
  | p :: r, nd, h => by
    have hp := h p List.mem_cons_self
    have nd' := nd
    rw [List.map_cons, List.nodup_cons] at nd'
    have ih := range_lot f lo n r nd'.2 fun q hq => h q (List.mem_cons_of_mem _ hq)
    rw [List.map_cons, tot_cons, ← ih, ← range_single f lo p.1 p.2 n hp.1 hp.2, ← tot_add]
    congr 1
    apply List.map_congr_left
    intro i _
    show (if p.1 = lo + (i : Int) then p.2 else look r (lo + i)) * _ = _
    by_cases e : p.1 = lo + (i : Int)
    · rw [if_pos e, if_pos e, look_none (by rw [← e]; exact nd'.1), Rat.zero_mul, Rat.add_zero]
    · rw [if_neg e, if_neg e, Rat.zero_mul, Rat.zero_add]

/-! ### polynomials -/
/-- the noughts at the end dropped -/
def trim (l : List Rat) : List Rat := (l.reverse.dropWhile fun x => decide (x = 0)).reverse
theorem trim_nil : trim [] = [] := rfl
theorem trim_zero (l : List Rat) : trim (l ++ [0]) = trim l := by
  unfold trim
  rw [List.reverse_append]
  rfl
theorem trim_ne {x : Rat} (l : List Rat) (h : x ≠ 0) : trim (l ++ [x]) = l ++ [x] := by
  unfold trim
  rw [List.reverse_append]
  show (List.dropWhile _ (x :: l.reverse)).reverse = _
  rw [List.dropWhile_cons_of_neg (by simpa using h)]
  simp
def worth (c : List Rat) (n : Int) : Rat := tot (c.zipIdx.map fun p => p.1 * ((n ^ p.2 : Int) : Rat))
theorem worth_snoc (c : List Rat) (x : Rat) (n : Int) : worth (c ++ [x]) n = worth c n + x * ((n ^ c.length : Int) : Rat) := by
  unfold worth
  rw [List.zipIdx_append, List.map_append, tot_append]
  simp only [List.zipIdx_cons, List.zipIdx_nil, List.map_cons, List.map_nil, tot_cons, tot_nil, Rat.add_zero, Nat.zero_add]
theorem worth_trim (n : Int) : ∀ (k : Nat) (c : List Rat), c.length = k → worth (trim c) n = worth c n
  | 0, c, h => by
    have : c = [] := List.length_eq_zero_iff.mp h
    subst this
    rfl
  | k + 1, c, h => by
    have hne : c ≠ [] := by intro e; subst e; cases h
    obtain ⟨d, x, rfl⟩ : ∃ d x, c = d ++ [x] := ⟨c.dropLast, c.getLast hne, (List.dropLast_concat_getLast hne).symm⟩
    by_cases e : x = 0
    · subst e
      rw [trim_zero, worth_snoc, Rat.zero_mul, Rat.add_zero]
      exact worth_trim n k d (by rw [List.length_append] at h; simpa using h)
    · rw [trim_ne d e]
/-- the numbers of (1 + x) ^ j -/
def row : Nat → List Int
  | 0 => [1]
  | j + 1 => [1] ++ ((List.range ((row j).length - 1)).map fun k => (row j).getD k 0 + (row j).getD (k + 1) 0) ++ [1]
def rows8 : List (List Int) := [[1], [1, 1], [1, 2, 1], [1, 3, 3, 1], [1, 4, 6, 4, 1], [1, 5, 10, 10, 5, 1], [1, 6, 15, 20, 15, 6, 1], [1, 7, 21, 35, 35, 21, 7, 1], [1, 8, 28, 56, 70, 56, 28, 8, 1]]
theorem row_8 : ∀ j : Nat, j ≤ 8 → row j = rows8.getD j [] := by decide
theorem row_len : ∀ j : Nat, j ≤ 8 → (row j).length = j + 1 := by decide
theorem row_le : ∀ j : Nat, j ≤ 8 → ∀ c ∈ row j, c.natAbs ≤ 128 := by decide
/-- the polynomial due, with its noughts -/
def due (L : L1) (j : Nat) : List Rat := (row j).zipIdx.map fun p => made L 0 (j - p.2) * (p.1 : Rat)
theorem due_len (L : L1) {j : Nat} (h : j ≤ 8) : (due L j).length = j + 1 := by
  unfold due
  rw [List.length_map, List.length_zipIdx, row_len j h]
theorem worth_map (n : Int) (f : Int × Nat → Rat) (c : List (Int × Nat)) : ∀ (i : Nat), tot (((c.map f).zipIdx i).map fun p => p.1 * ((n ^ p.2 : Int) : Rat)) = tot ((c.zipIdx i).map fun p => f p.1 * ((n ^ p.2 : Int) : Rat)) := by
  induction c with
  | nil => intro i; rfl
  | cons x r ih =>
    intro i
    rw [List.map_cons, List.zipIdx_cons, List.zipIdx_cons, List.map_cons, List.map_cons, tot_cons, tot_cons, ih]
/-- one place's share of the value -/
theorem binom : ∀ j : Nat, j ≤ 8 → ∀ (n k : Int), tot ((row j).zipIdx.map fun p => (((0 - k) ^ (j - p.2) : Int) : Rat) * (p.1 : Rat) * ((n ^ p.2 : Int) : Rat)) = (((n - k) ^ j : Int) : Rat) := by
  intro j hj n k
  rw [row_8 j hj]
  have h : j = 0 ∨ j = 1 ∨ j = 2 ∨ j = 3 ∨ j = 4 ∨ j = 5 ∨ j = 6 ∨ j = 7 ∨ j = 8 := by omega
  rcases h with rfl | rfl | rfl | rfl | rfl | rfl | rfl | rfl | rfl <;>
    (simp only [rows8, List.getD_cons_zero, List.getD_cons_succ, List.zipIdx_cons, List.zipIdx_nil, List.map_cons, List.map_nil, tot_cons, tot_nil, Rat.intCast_pow, Rat.intCast_sub]; grind)
theorem worth_due (L : L1) {j : Nat} (hj : j ≤ 8) (n : Int) : worth (due L j) n = made L n j := by
  have e : ∀ L : L1, worth (due L j) n = tot ((row j).zipIdx.map fun p => made L 0 (j - p.2) * (p.1 : Rat) * ((n ^ p.2 : Int) : Rat)) := by
    intro L
    rw [row_8 j hj]
    unfold worth due
    rw [row_8 j hj]
    have h : j = 0 ∨ j = 1 ∨ j = 2 ∨ j = 3 ∨ j = 4 ∨ j = 5 ∨ j = 6 ∨ j = 7 ∨ j = 8 := by omega
    rcases h with rfl | rfl | rfl | rfl | rfl | rfl | rfl | rfl | rfl <;> rfl
  rw [e]
  induction L with
  | nil =>
    unfold made
    rw [List.map_nil, tot_nil]
    exact tot_zero fun p _ => by rw [List.map_nil, tot_nil, Rat.zero_mul, Rat.zero_mul]
  | cons p r ih =>
    have h1 : ∀ (n : Int) (j : Nat), made (p :: r) n j = p.2 * (((n - p.1) ^ j : Int) : Rat) + made r n j := fun n j => rfl
    rw [h1, ← ih, ← binom j hj n p.1]
    simp only [h1]
    have h2 := tot_mul p.2 ((row j).zipIdx.map fun z => (((0 - p.1) ^ (j - z.2) : Int) : Rat) * (z.1 : Rat) * ((n ^ z.2 : Int) : Rat))
    rw [Rat.mul_comm p.2, ← h2, List.map_map, ← tot_add]
    congr 1
    apply List.map_congr_left
    intro z _
    simp only [Function.comp]
    grind
end K42

set_option Elab.async false
set_option linter.all false
set_option maxRecDepth 100000
set_option maxHeartbeats 4000000
namespace K42
open PySem PySem.Spec PyProof.Rows L2
/-! ### readings made stronger -/
section
variable {X : Cx}
theorem pe_imp {e : Expr} {t t' : TE} (h : PE X e t) (w : ∀ σ H Q, t' σ H Q → t σ H Q) : PE X e t' :=
  ⟨fun pins s σ H Q I q => h.run pins s σ H Q I (w σ H Q q)⟩
/-! ### math.comb -/
def rComb : List V → Hp → VK → Prop := fun vs H Q => ∃ a b : Int, vs = [.int a, .int b] ∧ (0 ≤ a ∧ a ≤ 100 ∧ 0 ≤ b ∧ b ≤ 100) ∧ Q (.int (PySem.W.mcComb a b)) H
theorem cr_comb : CallR X (.builtin "math.comb") rComb := by
  intro pins s σ H vs us Q I r h
  obtain ⟨a, b, rfl, ⟨a0, a1, b0, b1⟩, q⟩ := h
  obtain ⟨t, u, rfl⟩ := Vals.int2 r
  exact PySem.W.mc_comb_v a0 b0 (by omega) (.inl (by omega)) rfl ⟨.int _, H, I.tok _, ⟨_, rfl⟩, q⟩
/-! ### repr of data, where no repr is under way -/
def rReprD (K : PySem.W.Frag) : List V → Hp → VK → Prop := fun vs H Q => ∃ (a : Addr) (d : PyData), vs = [.ref a] ∧ Dp K H (.ref a) d ∧ d.showable = true ∧ d.hasDict = false ∧ d.depth ≤ 50 ∧ d.shown.length ≤ sizeLine ∧ Q (.str d.shown) H
theorem cr_reprD (hg : X.A.guards = some []) (hu : X.A.units + 64 < cLine) : CallR X (.builtin "repr") (rReprD X.K) := by
  intro pins s σ H vs us Q I r h
  obtain ⟨a, d, rfl, dp, hs, hd, hk, hz, q⟩ := h
  cases r with
  | cons r rr =>
    cases rr
    cases r
    obtain ⟨as, rd⟩ := Dp.reads I d (.ref a) (.ref a) dp rfl
    refine repr_of_reads' rd hs (PyData.noDict_hsm hd) hg (by omega) (fun _ _ e => e) (fun h' u tk kp => ?_) hz
    exact ⟨.str d.shown, H, I.kept (t' := tk) kp, ⟨_, rfl⟩, q⟩
/-! ### a dict against the empty one -/
def rEmptyD : R2 := fun x y H Q => ∃ a b ks, x = .ref a ∧ y = .ref b ∧ H a = some (.dK ks) ∧ H b = some (.dK []) ∧ Q (.bl (ks.length == 0)) H
theorem op_emptyD (hu : X.A.units < cLine) : OpR X (compareOp .Eq) rEmptyD := by
  intro pins s σ H x y v u Q I rx ry h
  obtain ⟨a, b, ks, rfl, rfl, ea, eb, q⟩ := h
  obtain rfl : v = Value.ref a := rx
  obtain rfl : u = Value.ref b := ry
  obtain ⟨_, ya, va, ra, da⟩ := (show ObjOk X.prog X.w H s.heap a (.dK ks) from I.hok a _ ea)
  obtain ⟨_, yb, vb, rb, db⟩ := (show ObjOk X.prog X.w H s.heap b (.dK []) from I.hok b _ eb)
  have la := ra.length
  have lb := rb.length
  cases rb
  refine PySem.W.keq_eq (knd := mixKind X.prog X.w) (r := true) ya yb da db hu (fun hl => ?_) (fin_bl I q (by rw [la]; cases va <;> rfl))
  have e : va = [] := List.length_eq_zero_iff.mp hl
  subst e
  have e2 : ks = [] := List.length_eq_zero_iff.mp la
  subst e2
  exact hits_all (.nil) ra (fun p hp => absurd hp List.not_mem_nil)
/-! ### divmod by a small number -/
theorem divp_small {i j : Int} (h0 : 0 < j) (h1 : j < 1073741824) : CDivP i j := ⟨h0, PyProof.noPylong_small (by omega)⟩
end
/-! ### enumerate(tuple) -/
/-- the tuple at a, each item in a new pair -/
def IteT (K : PySem.W.Frag) (a : Addr) : It where
  go := fun i H => ∃ (xs : List V) (x : V), SqT K H a xs ∧ xs[i]? = some x
  yld := fun i H v H' => ∃ T x, v = .ref T ∧ H T = none ∧ H' = upd H T (.tup [.int (i : Nat), x]) ∧ ∀ xs, SqT K H a xs → xs[i]? = some x
  stop := fun i H => ∃ xs : List V, SqT K H a xs ∧ xs.length = i
theorem turn_enumT {P : Program} {w : World} {K : PySem.W.Frag} {elts : List Expr} {kk : Nat} {tpos : Pos} (a e it : Addr) (hae : a ≠ it) (hee : e ≠ a) (hne : e ≠ it) :
    Turn P w K (.Tuple elts kk tpos) (IteT K a) [e, it] e (fun i h => (∃ old, IsEnum h e it (0 + ((i : Nat) : Int)) old) ∧ h.IsTupleIter it a i) := by
  -- the library's enumerate over what a tuple's iterator draws
  have goes : ∀ (X : Cx), X.calm = true → X.A.handled = none → ∀ items : Array Value, GoesN X.prog X.w X.A (.Tuple elts kk tpos) e [e, it, a] [e, it] items.size
      (fun i h₀ v h => ∃ T t x, v = .ref T ∧ h₀.objs.size ≤ T ∧ items[i]? = some x ∧ h.IsTuple T #[.int (0 + (i : Int)) t, x]) (fun i h => (∃ old, IsEnum h e it (0 + (i : Int)) old) ∧ h.IsTupleIter it a i ∧ h.IsTuple a items) :=
    fun X _ hh items => GoesN.enumFrom 0 (Draws.tuple (A := X.A.in1) hh it a hae items) e hne (by simp [hne, hee]) (by simp)
  refine { mem := List.mem_cons_self, obj := ?obj, keep := ?keep, item := ?item, done := ?done, self := ?self }
  case obj =>
    rintro i h ⟨⟨old, en⟩, ⟨o, ho, _, hd⟩⟩ b hb
    simp only [List.mem_cons, List.not_mem_nil, or_false] at hb
    rcases hb with rfl | rfl
    · exact ⟨_, en, fun v q => nomatch q⟩
    · refine ⟨o, ho, fun v q => ?_⟩
      rw [hd] at q
      cases q
  case keep =>
    rintro i h h' ⟨⟨old, en⟩, hi⟩ k
    exact ⟨⟨old, k e (by simp) _ en⟩, hi.at fun o q => k it (by simp) o q⟩
  case item =>
    rintro X rfl rfl rfl calm i pins s σ H E I own ⟨en, ti⟩ ⟨xs, x, hq, hx⟩
    obtain ⟨its, rv, tp, _⟩ := I.tuple hq
    obtain ⟨u, hu, ru⟩ := rv.get hx
    have hi : i < its.toArray.size := by simpa using (List.getElem?_eq_some_iff.mp hu).1
    refine (goes X calm (I.ok.hd calm) its.toArray).goes i s (fun v s2 => ∃ x H', Inv X pins σ H' s2 ∧ RelV x v ∧ (IteT X.K a).yld i H x H' ∧ _ ∧ ∀ b ∈ [e, it], H' b = none) E hi ⟨en, ti, tp⟩ ?_
    rintro _ h' tk ⟨T, t, y, rfl, hT, hy, new⟩ ⟨en', ti', _⟩ kept _
    have hy' : its[i]? = some y := by simpa using hy
    obtain rfl : u = y := Option.some.inj (hu.symm.trans hy')
    have free : H T = none := I.hok.fresh hT
    have laid : ObjOk X.prog X.w (upd H T (.tup [.int (i : Nat), x])) h' T (.tup [.int (i : Nat), x]) := by
      refine ⟨by show 2 ≤ sizeLine; decide, [.int (0 + (i : Int)) t, u], .cons ⟨t, ?_⟩ (.cons ru .nil), new⟩
      rw [Int.zero_add]
    have apart : ∀ b ∈ [e, it], b ≠ T := by
      intro b hb z
      have h1 : b < s.heap.objs.size := by
        obtain ⟨old, en⟩ := en
        obtain ⟨o, ho, _⟩ := ti
        simp only [List.mem_cons, List.not_mem_nil, or_false] at hb
        rcases hb with rfl | rfl
        · exact Heap.lt_size en
        · exact Heap.lt_size ho
      rw [z] at h1
      exact absurd (Nat.lt_of_lt_of_le h1 hT) (Nat.lt_irrefl _)
    refine ⟨.ref T, _, I.turnedNew (t' := tk) (ch := [e, it]) (fun b ob hb q => kept b ob hb q) own hT laid, rfl, ⟨T, x, rfl, free, rfl, fun ys hys => ?_⟩, ⟨en', ti'⟩, fun b hb => ?_⟩
    · rw [I.tuple_inj hys hq]
      exact hx
    · rw [upd_ne (apart b hb)]
      exact (own b hb).1
  case done =>
    rintro X rfl rfl rfl calm i pins s σ H E I own ⟨en, ti⟩ ⟨xs, hq, rfl⟩
    obtain ⟨its, rv, tp, _⟩ := I.tuple hq
    have sz : xs.length = its.toArray.size := by simpa using rv.length
    rw [sz] at en ti
    obtain ⟨o1, o2, o3, o4, o5, o6⟩ := own it (by simp)
    obtain ⟨q1, q2, q3, q4, q5, q6⟩ := own e (by simp)
    refine (goes X calm (I.ok.hd calm) its.toArray).stops s (fun s1 => Inv X pins σ H s1) E ⟨en, ti, tp⟩ ?_
    intro h' tk kept _
    exact I.turnedL (t' := tk) (ch := [e, it]) (fun b o hb q => kept b o hb q) own
  case self =>
    rintro A i s Q E ⟨⟨_, en⟩, _⟩ h
    exact wpAny_pyIter_enum en h
def iEnumT (K : PySem.W.Frag) (ta : TA) : TI := fun σ H R => ta σ H fun vs H1 => ∃ a xs, vs = [.ref a] ∧ SqT K H1 a xs ∧ R (IteT K a) H1
theorem walk_enumT {K : PySem.W.Frag} {a : Addr} {xs : List V} : Walk (IteT K a) xs.length (fun H => SqT K H a xs) (YPair (fun i => some (.int (i : Nat))) (fun i => xs[i]?)) where
  goes := fun i H hi q => ⟨xs, xs[i], q, by simp [hi]⟩
  stops := fun H q => ⟨xs, q, rfl⟩
  yields := fun i H v H' hi q y => by
    obtain ⟨T, x, ev, nT, eH, at_x⟩ := y
    exact ⟨T, .int (i : Nat), x, ev, nT, eH, rfl, at_x xs q⟩
end K42

set_option Elab.async false
set_option linter.all false
set_option maxRecDepth 100000
set_option maxHeartbeats 4000000
namespace K42
open PySem PySem.Spec PyProof.Rows L2
/-! ### enumerate(v), from the count 0 -/
/-- the object that enumerate makes over the iterator at i -/
abbrev enumObj (i : Addr) : Obj := { cls := .type "enumerate", data := .fields #[.none, .bool false, .ref i, rawInt 0, .none, .none] }
theorem meets_enum0 {v : Value} {o : Obj} {G : Heap → Prop} (B : Begins v o G) :
    Meets (Builtin.«enumerate.__new__» ⟨[.type "enumerate", v], []⟩) (fun _ R s => G s.heap ∧ R (.ok (.ret (.ref (s.heap.push o).objs.size))) { s with heap := (s.heap.push o).push (enumObj s.heap.objs.size) }) := by
  refine .of_wp ?_
  rintro prog w A R ⟨hp, g, d, tk, os⟩ ⟨h1, h⟩
  have subt := sub_enumerate
  have begin_ : ∀ {A' : Around} {E : Value → Shared → Prop} {Q : Value → Shared → Prop}, Q (.ref hp.objs.size) ⟨hp.push o, g, d, tk, os⟩ → wpAny (model prog w) A' (pyIter v) Q E ⟨hp, g, d, tk, os⟩ := by
    intro A' E Q q
    exact B.iter prog w A' E ⟨hp, g, d, tk, os⟩ Q h1 q
  wp_walk using begin_
  refine wpAny_stack_any fun st => wpAny_pure ?_
  split
  case h_1 c _ _ _ _ _ =>
    cases c == Value.type "enumerate" <;> (wp_walk using begin_; exact ⟨_, rfl, h⟩)
  case h_2 =>
    wp_walk using begin_
    exact ⟨_, rfl, h⟩
theorem call_enum0 {prog : Program} {w : World} {A : Around} {E : Value → Shared → Prop} {s : Shared} {v : Value} {o : Obj} {G : Heap → Prop} {Q : Value → Shared → Prop} (B : Begins v o G) (h1 : G s.heap)
    (h : ∀ h', IsEnum h' (s.heap.objs.size + 1) s.heap.objs.size 0 .none → h'.get? s.heap.objs.size = some o → (∀ b u, s.heap.get? b = some u → h'.get? b = some u) → Q (.ref (s.heap.objs.size + 1)) { s with heap := h' }) :
    wpAny (model prog w) A (call (.type "enumerate") [v]) Q E s := by
  have size1 : (s.heap.push o).objs.size = s.heap.objs.size + 1 := Heap.size_push ..
  have made : IsEnum ((s.heap.push o).push (enumObj s.heap.objs.size)) (s.heap.objs.size + 1) s.heap.objs.size 0 .none := by
    have z := Heap.get?_push_size (s.heap.push o) (o := enumObj s.heap.objs.size) rfl
    rw [size1] at z
    exact z
  refine callType_new F.called_enumerate (by decide) (F.typeCall_enumerate_1 _) (F.newCall_enumerate_1 _) (fun obj => F.args_object_init_2 obj _) F.entry_enumerate_new (meets_enum0 B) ⟨h1, ?_⟩
  show _ ∧ _
  rw [size1]
  refine ⟨⟨_, made, rfl⟩, h _ made (Heap.get?_push_of_some _ (Heap.get?_push_size _ B.free)) ?_⟩
  intro b u x
  exact Heap.get?_push_of_some _ (Heap.get?_push_of_some _ x)
theorem pi_enumT {X : Cx} {e : Expr} {ta : TA} {p pos tpos : Pos} {elts : List Expr} {kk : Nat} (hg : Gl X "enumerate") (hm : X.mg "enumerate" = none) (ha : PA X [e] ta) (hs : starEach [e] X.env = [(false, eval e X.env)] := by rfl) :
    PI X (.Tuple elts kk tpos) (.Call (.Name "enumerate" p) [e] [] pos) (iEnumT X.K ta) := by
  refine ⟨fun pins s σ H R I h => Call_ (ld_blt I hg hm boot_enumerate (PyProof.Rows.callWith_type1 (thn (ha.run pos pins s σ H _ I h) ?_) hs rfl))⟩
  rintro us s1 ⟨vs, H1, I1, r1, a, xs, rfl, hq, q⟩
  obtain ⟨u, us, rfl⟩ : ∃ u us', us = u :: us' := by
    cases r1 with
    | cons _ _ => exact ⟨_, _, rfl⟩
  obtain ⟨rfl, rfl⟩ : u = Value.ref a ∧ us = [] := by
    cases r1 with
    | cons r rr => exact ⟨r, by cases rr; rfl⟩
  obtain ⟨its, rv, tp, _⟩ := I1.tuple hq
  have old : a < s1.heap.objs.size := tp.lt
  refine call_enum0 (begins_tuple a its.toArray) tp fun h' en it0 kept => wpAny_pyIter_enum en ?_
  have turn := turn_enumT (P := X.prog) (w := X.w) (K := X.K) (elts := elts) (kk := kk) (tpos := tpos) a (s1.heap.objs.size + 1) s1.heap.objs.size (Nat.ne_of_lt old) (Nat.ne_of_gt (Nat.lt_succ_of_lt old)) (Nat.succ_ne_self _)
  refine ⟨_, _, _, _, H1, rfl, I1.kept (t' := s1.toks) kept, turn, ⟨⟨.none, en⟩, ⟨_, it0, rfl, rfl⟩⟩, ?_, q⟩
  intro b hb
  have young : s1.heap.objs.size ≤ b := by
    simp only [List.mem_cons, List.not_mem_nil, or_false] at hb
    rcases hb with rfl | rfl
    · exact Nat.le_succ _
    · exact Nat.le_refl _
  exact (I1.fpOk young) (I1.hok.fresh young)

/-! ### a comprehension without a test -/
theorem lc_itY {J : It} {n : Nat} {G : Hp → Prop} {Y : Nat → Hp → V → Hp → Prop} (w : Walk J n G Y) {g : TG} {te : TE} {vs : List Nat} {σ : L2.St} {H1 : Hp} {D : Addr} {Qd : Hp → Prop} (Pv : Nat → Hp → Prop) (h0 : Pv 0 (upd H1 D (.lst []))) (hG : ∀ i H, i ≤ n → Pv i H → G H)
    (hs : ∀ i x H H', i < n → Pv i H → Y i H x H' → g x (wipe σ vs) H' fun σ2 H2 => wipe σ2 vs = wipe σ vs ∧ te σ2 H2 fun y H4 => ∃ acc, H4 D = some (.lst acc) ∧ acc.length < sizeLine ∧ Pv (i + 1) (upd H4 D (.lst (acc ++ [y])))) (hd : ∀ H, Pv n H → Qd H) :
    ∃ W : Nat → Nat → Hp → Prop, (∃ m, W 0 m (upd H1 D (.lst []))) ∧ ∀ i m H, W i m H →
      (J.stop i H ∧ Qd H) ∨ (J.go i H ∧ ∃ Nx : Hp → Prop, (∀ H', Nx H' → ∃ m', m' < m ∧ W (i + 1) m' H') ∧ ∀ x H', J.yld i H x H' → g x (wipe σ vs) H' fun σ2 H2 => wipe σ2 vs = wipe σ vs ∧ tYes σ2 H2 fun b H3 =>
        if b = true then te σ2 H3 fun y H4 => ∃ acc, H4 D = some (.lst acc) ∧ acc.length < sizeLine ∧ Nx (upd H4 D (.lst (acc ++ [y]))) else Nx H3) :=
  lc_it (tt := tYes) w Pv h0 hG hs hd
/-! ### heaps -/
theorem same_upd {H : Hp} {p : Addr} {o : HO} (free : H p = none) : Same H (upd H p o) := by
  intro b x e
  rw [upd_ne (ne_of_none e free), e]
theorem Same.tup {K : PySem.W.Frag} {H H' : Hp} {a : Addr} {xs : List V} (e : Same H H') (h : SqT K H a xs) : SqT K H' a xs :=
  h.elim (fun r => .inl (r.elim (fun t => .inl (e _ _ t)) fun ⟨o, t⟩ => .inr ⟨o, e _ _ t⟩)) .inr
/-- all stands but w -/
def Kp (w : Addr) (H H' : Hp) : Prop := ∀ b o, H b = some o → b ≠ w → H' b = some o
theorem Kp.of {w : Addr} {H H' : Hp} (s : Same H H') : Kp w H H' := fun b o e _ => s b o e
theorem Kp.trans {w : Addr} {H H1 H2 : Hp} (a : Kp w H H1) (b : Kp w H1 H2) : Kp w H H2 := fun c o e n => b c o (a c o e n) n
theorem Kp.refl (w : Addr) (H : Hp) : Kp w H H := fun _ _ e _ => e
theorem Kp.tup {K : PySem.W.Frag} {w : Addr} {H H' : Hp} {a : Addr} {xs ys : List V} (k : Kp w H H') (hw : H w = some (.lst ys)) (h : SqT K H a xs) : SqT K H' a xs := by
  rcases h with (h | ⟨o, h⟩) | h
  · exact .inl (.inl (k _ _ h (ne_of h hw (by intro z; cases z))))
  · exact .inl (.inr ⟨o, k _ _ h (ne_of h hw (by intro z; cases z))⟩)
  · exact .inr h

/-! ### fractions on the heap -/
def Fr (K : PySem.W.Frag) (H : Hp) (v : V) (q : Rat) : Prop := ∃ p, v = .ref p ∧ SqT K H p [.int q.num, .int (q.den : Int)]
theorem Fr.same {K : PySem.W.Frag} {H H' : Hp} {v : V} {q : Rat} (s : Same H H') (h : Fr K H v q) : Fr K H' v q := let ⟨p, e, z⟩ := h; ⟨p, e, Same.tup s z⟩
theorem Fr.kp {K : PySem.W.Frag} {w : Addr} {H H' : Hp} {v : V} {q : Rat} {ys : List V} (k : Kp w H H') (hw : H w = some (.lst ys)) (h : Fr K H v q) : Fr K H' v q := let ⟨p, e, z⟩ := h; ⟨p, e, k.tup hw z⟩
/-- a new pair is a fraction -/
theorem Fr.new {K : PySem.W.Frag} {H : Hp} {p : Addr} {q : Rat} {n m : Int} (hn : n = q.num) (hm : m = (q.den : Int)) : Fr K (upd H p (.tup [.int n, .int m])) (.ref p) q := by
  subst hn hm
  exact ⟨p, rfl, SqT.of upd_same⟩
theorem Fr.int {K : PySem.W.Frag} {H : Hp} {p : Addr} {n : Int} : Fr K (upd H p (.tup [.int n, .int 1])) (.ref p) (n : Rat) := Fr.new rfl rfl
def tF0 (K : PySem.W.Frag) (te : TE) : TE := fun σ H Q => te σ H fun x H1 => ∃ q, Fr K H1 x q ∧ Q (.int q.num) H1
def tF1 (K : PySem.W.Frag) (te : TE) : TE := fun σ H Q => te σ H fun x H1 => ∃ q, Fr K H1 x q ∧ Q (.int (q.den : Int)) H1
section
variable {X : Cx} {e : Expr} {te : TE} {p1 p2 : Pos} {j}
theorem pe_sub0 (he : PE X e te) : PE X (.Subscript e (.Constant (.int 0) j p1) p2) (tOp (rIxT X.K) te (tC (.int 0))) := pe_ix ix_tup he pe_int (fun _ _ => rfl)
theorem pe_sub1 (he : PE X e te) : PE X (.Subscript e (.Constant (.int 1) j p1) p2) (tOp (rIxT X.K) te (tC (.int 1))) := pe_ix ix_tup he pe_int (fun _ _ => rfl)
end
/-- the parts of a name's fraction -/
def tN0 (K : PySem.W.Frag) (i : Nat) : TE := fun σ H Q => ∃ v q, σ[i]? = some (some v) ∧ Fr K H v q ∧ Q (.int q.num) H
def tN1 (K : PySem.W.Frag) (i : Nat) : TE := fun σ H Q => ∃ v q, σ[i]? = some (some v) ∧ Fr K H v q ∧ Q (.int (q.den : Int)) H
section
variable {X : Cx} {x : Str} {p p1 p2 : Pos} {j}
theorem pv0 (i : Nat) (hN : X.N[i]? = some x := by rfl) (hv : Vis X.env.scope x := by first | exact Or.inl rfl | exact Or.inr (Or.inl rfl) | exact Or.inr (Or.inr rfl)) (hd : (x == ("__debug__" : Str)) = false := by decide)
    (hcd : (x == ("__classdict__" : Str)) = false := by decide) : PE X (.Subscript (.Name x p) (.Constant (.int 0) j p1) p2) (tN0 X.K i) := by
  refine pe_imp (pe_sub0 (pe_var hN hv hd hcd)) fun σ H Q h => ?_
  obtain ⟨v, q, e, ⟨a, rfl, t⟩, k⟩ := h
  exact ⟨_, e, a, _, 0, _, rfl, rfl, t, rfl, k⟩
theorem pv1 (i : Nat) (hN : X.N[i]? = some x := by rfl) (hv : Vis X.env.scope x := by first | exact Or.inl rfl | exact Or.inr (Or.inl rfl) | exact Or.inr (Or.inr rfl)) (hd : (x == ("__debug__" : Str)) = false := by decide)
    (hcd : (x == ("__classdict__" : Str)) = false := by decide) : PE X (.Subscript (.Name x p) (.Constant (.int 1) j p1) p2) (tN1 X.K i) := by
  refine pe_imp (pe_sub1 (pe_var hN hv hd hcd)) fun σ H Q h => ?_
  obtain ⟨v, q, e, ⟨a, rfl, t⟩, k⟩ := h
  exact ⟨_, e, a, _, 1, _, rfl, rfl, t, rfl, k⟩
end
end K42

set_option Elab.async false
set_option linter.all false
set_option maxRecDepth 100000
set_option maxHeartbeats 4000000
namespace K42
open PySem PySem.Spec PyProof.Rows L2
/-! ### defs that are called where no repr is under way: repr of a list or tuple asks what is under way, and a promise of the layer (FnOk) holds whatever is -/
structure FnG (P : Program) (w : World) (K : PySem.W.Frag) (mg : Str → Option Value) (base : Heap) (k : Nat) (f : Addr) (fd : FuncData) (ps : List Str) (sp : Sp) : Prop where
  arity : ∀ {vs H Q E}, sp vs H Q E → vs.length = ps.length
  calm : ∀ {A : Around} {outer : List Env} {s : Shared} {H : Hp} {args : Args} {us : List Value} {vs : List V} {Q : VK} {E : XK}, A.guards = some [] → Room k A → Env0 P w K mg base A outer s H →
    BindsTo s fd args (ps.zip us) → Vals vs us → sp vs H Q E → codeAny (model P w) A (.call (.ref f) args) (CR CX0 outer P w H s Q E) s
section
variable {P : Program} {w : World} {K : PySem.W.Frag} {mg : Str → Option Value} {base : Heap} {k : Nat} {f : Addr} {fd : FuncData} {N ps : List Str} {sp : Sp}
/-- a body's end is the call's end -/
theorem call_end {outer : List Env} {H : Hp} {s s' : Shared} {Q : VK} {E : XK} {X : Cx} {fl : Flow} (eH : X.H_0 = H) (eS : X.s_0 = s) (eP : X.prog = P) (eW : X.w = w) (eF : X.fs = frs outer) (eX : X.ex = [])
    : SP X [] { nx := fun _ H' => Q .non H', rt := Q } fl s' → CR CX0 outer P w H s Q E (.ok (.ret (match fl with | .ret v => v | _ => .none))) s' := by
  intro h
  subst eH eS eP eW
  cases fl with
  | next =>
    obtain ⟨σ', H', J, q⟩ := h
    exact ⟨V.non, H', J.os, J.bare, by have z := J.base; rw [eF, eX] at z; exact z, J.hok, rfl, q⟩
  | ret u =>
    obtain ⟨v, σ', H', J, rv, q⟩ := h
    exact ⟨v, H', J.os, J.bare, by have z := J.base; rw [eF, eX] at z; exact z, J.hok, rv, q⟩
  | brk =>
    obtain ⟨_, _, _, z⟩ := h
    exact False.elim z
  | cont =>
    obtain ⟨_, _, _, z⟩ := h
    exact False.elim z
theorem FnG.of {x qual : Str} {st : Stmt} (F : Fun K x qual st f fd) (S : FnScope N ps (defScope st)) (ar : ∀ vs H Q E, sp vs H Q E → vs.length = ps.length)
    (body : ∀ (cdv : Value) (A : Around) (outer : List Env) (s : Shared) (H : Hp) (vs : List V) (Q : VK) (E : XK), (A.deeper (envOfC qual (defScope st) s.heap.objs.size f cdv)).guards = some [] →
      Room k (A.deeper (envOfC qual (defScope st) s.heap.objs.size f cdv)) → sp vs H Q E →
      ∃ t, PSs (cxOf CX0 P w K mg base N qual (defScope st) f cdv A outer s H E).nox (defBody st) t ∧ t { nx := fun _ H' => Q .non H', rt := Q } (start N vs) H) : FnG P w K mg base (k + 1) f fd ps sp := by
  refine ⟨fun h => ar _ _ _ _ h, ?_⟩
  rintro A outer s H args us vs Q E hg room e0 bind rel want
  obtain ⟨_, _, _, _, _, _, cdv, _, _, rfl, at_f, code⟩ := F.ex
  have stay : ∀ b o, base.get? b = some o → s.heap.get? b = some o := fun b o e => (e0.bs b o e).1
  have kin := e0.mod.kin.keeps stay
  refine codeAny_call_function room.depth (kin _ _ at_f) rfl S.co S.gen rfl (PySem.W.codeRec_of kin code) (bind _ _ _ _ ?_)
  refine wpAny_newFunctionEnv_cells S.kind ?_ ?_
  · intro y hy
    refine (S.par y.1 (List.of_mem_zip (show (y.1, y.2) ∈ ps.zip us from hy)).1).imp id fun c => ⟨c, PySem.W.cellsFrom_some _ _ _ (.inl c)⟩
  rintro _ rfl s1 entered
  refine ⟨(e0.mod.nolimit.keeps stay).keeps entered.toInCall.keep, codeAny_func ?_⟩
  obtain ⟨t, ht, hq⟩ := body cdv A outer s H vs Q E hg (room.deeper _) want
  have I := inv_start (CX := CX0) (E := E) (P := P) (mg := mg) (base := base) S room.hd e0 (ar _ _ _ _ want) rel entered
  exact wpAny_mono (ht.nox.run [] s1 (start N vs) H _ I hq) (fun fl s' hs => call_end (outer := outer) (X := (cxOf CX0 P w K mg base N qual (defScope st) f cdv A outer s H E)) rfl rfl rfl rfl rfl rfl hs) fun _ _ z => z
end
section
variable {X : Cx} {k : Nat} {f : Addr} {fd : FuncData} {ps : List Str} {sp : Sp} {x : Str} {p pos : Pos} {e : Expr} {es : List Expr} {t : TA}
/-- a call of such a def, by its name -/
theorem pe_callG (F : FnG X.prog X.w X.K X.mg X.base k f fd ps sp) (hG : X.A.guards = some []) (room : Room k X.A) (hg : Gl X x) (hm : X.mg x = some (.ref f)) (kp : PySem.W.keepIn X.K (.ref f) = true) (bind : Binds X.K fd ps [])
    (args : PA X (e :: es) t) (nodebug : (x == ("__debug__" : Str)) = false := by decide) (first : starEach (e :: es) X.env = (false, eval e X.env) :: starEach es X.env := by rfl) (plain : (backTo pos (starEach es X.env)).any (·.1) = false := by rfl) :
    PE X (.Call (.Name x p) (e :: es) [] pos) (tCall sp [] E0 t) := by
  refine ⟨fun pins s σ H Q I h => wpAny_Call_Name_kw (ld_glob I hg hm (PySem.W.callWith_K (h₀ := X.base) I.ok.mod.kin kp (thn (args.run pos pins s σ H _ I h) ?_) first plain) nodebug)⟩
  rintro us s1 ⟨vs, H1, I1, rel, want⟩
  have want' : sp vs H1 Q E0 := by
    have z : sp (vs ++ []) H1 Q E0 := want
    rwa [List.append_nil] at z
  have bound : BindsTo s1 fd ⟨us, []⟩ (ps.zip us) := by
    have z := bind s1 us I1.kIn (by rw [List.append_nil, ← rel.length, F.arity want'])
    rwa [List.append_nil] at z
  refine ⟨I1.kIn, wpAny_call (codeAny_mono (F.calm hG room I1.env0 bound rel want') ?_)⟩
  intro r s' end_
  match r, end_ with
  | .ok (.ret u), z => exact I1.after z
  | .ok .next, z => exact False.elim z
  | .ok .brk, z => exact False.elim z
  | .ok .cont, z => exact False.elim z
  | .error _, z => exact False.elim z
end
/-! ### the law's head, where no repr is under way -/
/-- the state that the top has left, with the script -/
structure Left (K : PySem.W.Frag) (mg : Str → Option Value) (s : Shared) (a : Addr) (vs : List Value) (ns : List Int) : Prop where
  kin : K.In s.heap
  glob : s.heap.Ns mainGlobals mg
  blt : ∃ mb, s.heap.Ns builtinsNs mb ∧ ∀ x : Str, x ≠ "__name__" → mb x = bootBuiltins x
  lim : s.heap.NoLimit
  gens : s.gens = #[]
  obj : s.heap.get? a = some { cls := .type "list", data := .seq vs.toArray }
  isI : IntsAre vs ns
  few : ns.length ≤ sizeLine
/-- True, and what stood stands -/
abbrev Held (s : Shared) : Result → Shared → Prop := fun r s' => r = .ok (.ret (.bool true)) ∧ OldK s.heap s'.heap ∧ s'.os = s.os ∧ AllBare s'.gens
section
variable {P : Program} {w : World} {K : PySem.W.Frag} {mg : Str → Option Value} {k : Nat} {fa a : Addr} {fd : FuncData} {x : Str} {sp : Sp} {s : Shared} {vs : List Value} {ns : List Int}
/-- from an abstract heap H that tracks the script or nothing -/
theorem Left.call (L : Left K mg s a vs ns) (room : Room k callerA) (F : ∀ base : Heap, K.In base → base.Ns mainGlobals mg → FnG P w K mg base k fa fd [x] sp) (bind : ∀ (s : Shared) (u : Value), BindsTo s fd ⟨[u], []⟩ [(x, u)])
    {H : Hp} (only : Only H) (ok : HOk P w H s.heap) (mine : ∀ b u, H b = some u → b = a ∧ K.lookup a = none) (want : sp [.ref a] H (fun v _ => v = .bl true) fun _ _ _ => False) : codeAny (model P w) callerA (.call (.ref fa) ⟨[.ref a], []⟩) (Held s) s := by
  -- what is not the script is not tracked
  have clear : ∀ {b : Addr} {o : Obj}, s.heap.get? b = some o → (b = a → K.lookup a = none → False) → (hidT s.heap H).get? b = some o := by
    intro b o e no
    refine hidT_get e ?_
    cases q : H b with
    | none => rfl
    | some u => exact (no (mine b u q).1 (mine b u q).2).elim
  have names : ∀ {b : Addr} {m : Str → Option Value}, s.heap.Ns b m → (hidT s.heap H).Ns b m := by
    rintro b m ⟨o, es, ep, e, d, r⟩
    refine ⟨o, es, ep, clear e ?_, d, r⟩
    rintro rfl _
    rw [L.obj] at e
    cases e
    exact nomatch (show Data.seq vs.toArray 0 = Data.dict es ep from d)
  have kin : K.In (hidT s.heap H) := by
    intro b o e
    refine clear (L.kin b o e) ?_
    rintro rfl no
    rw [no] at e
    exact nomatch e
  obtain ⟨mb, b1, b2⟩ := L.blt
  obtain ⟨ml, l1, l2⟩ := L.lim
  have env : Env0 P w K mg (hidT s.heap H) callerA [] s H :=
    ⟨rfl, ⟨kin, names L.glob, ⟨mb, names b1, b2⟩, ⟨ml, names l1, l2⟩⟩, fun _ _ => of_hidT, Nat.le_of_eq (hidT_size _ _), trivial, (fun b z => nomatch (show b ∈ ([] : List Addr) from z)), ok, .of_eq L.gens⟩
  refine codeAny_mono ((F _ kin (names L.glob)).calm rfl room env (us := [.ref a]) (vs := [.ref a]) (bind s (.ref a)) (.cons rfl .nil) want) ?_
  intro r s' z
  match r, z with
  | .ok .next, z => exact False.elim z
  | .ok .brk, z => exact False.elim z
  | .ok .cont, z => exact False.elim z
  | .error _, z => exact False.elim z
  | .ok (.ret u), ⟨v, H', os, bare, un, ok', ru, ev⟩ =>
    have ev' : v = .bl true := ev
    subst ev'
    have eu : u = Value.bool true := ru
    subst eu
    refine ⟨rfl, OldK.of_keep fun b o e => ?_, os, bare⟩
    rcases only b with n | ⟨ob, ys, n⟩
    · exact un.keep b o e n (fun m => nomatch (show b ∈ ([] : List Addr) from m)) (fun m => nomatch m)
    · have old := (ok b _ n).1
      have new := (ok' b _ (un.frzs b ob _ n)).1
      rw [e] at old
      cases old
      exact new
theorem Left.law (L : Left K mg s a vs ns) (room : Room k callerA) (F : ∀ base : Heap, K.In base → base.Ns mainGlobals mg → FnG P w K mg base k fa fd [x] sp) (bind : ∀ (s : Shared) (u : Value), BindsTo s fd ⟨[u], []⟩ [(x, u)])
    (want : ∀ H : Hp, Only H → SqL K H a (ns.map V.int) → sp [.ref a] H (fun v _ => v = .bl true) fun _ _ _ => False) : codeAny (model P w) callerA (.call (.ref fa) ⟨[.ref a], []⟩) (Held s) s := by
  have rel := vals_ints L.isI
  have many : (ns.map V.int).length ≤ sizeLine := by
    rw [List.length_map]
    exact L.few
  by_cases own : K.lookup a = none
  · -- the script is the caller's
    have one : ∀ b u, (fun b => if b = a then some (HO.frz { cls := .type "list", data := .seq vs.toArray } (.lst (ns.map V.int))) else none : Hp) b = some u → b = a ∧ u = .frz { cls := .type "list", data := .seq vs.toArray } (.lst (ns.map V.int)) := by
      intro b u z
      by_cases e : b = a
      · exact ⟨e, (Option.some.inj ((if_pos e).symm.trans z)).symm⟩
      · exact nomatch (if_neg e).symm.trans z
    refine L.call room F bind (H := fun b => if b = a then some (HO.frz { cls := .type "list", data := .seq vs.toArray } (.lst (ns.map V.int))) else none) (fun b => ?_) (fun b u z => ?_) (fun b u z => ⟨(one b u z).1, own⟩) (want _ (fun b => ?_) (.inl (.inr ⟨_, if_pos rfl⟩)))
    · by_cases e : b = a
      · exact .inr ⟨_, _, if_pos e⟩
      · exact .inl (if_neg e)
    · obtain ⟨rfl, rfl⟩ := one b u z
      exact ⟨L.obj, many, vs, _, rel, L.obj⟩
    · by_cases e : b = a
      · exact .inr ⟨_, _, if_pos e⟩
      · exact .inl (if_neg e)
  · -- the script is one of the top's own lists
    obtain ⟨o, eo⟩ := Option.ne_none_iff_exists'.mp own
    have eq := L.kin a o eo
    rw [L.obj] at eq
    cases eq
    refine L.call room F bind (H := fun _ => none) (fun _ => .inl rfl) (fun _ _ z => nomatch z) (fun _ _ z => nomatch z) (want _ (fun _ => .inl rfl) (.inr ⟨_, vs.toArray, 0, eo, rfl, rfl, rfl, ?_, rel⟩))
    rw [List.size_toArray, L.isI.length]
    exact L.few
end
theorem walk_ofG {l : PySem.W.OpenLaw} {n k : Nat} {q : Program} {loose : List Str} {XP : (Str → Option Value) → Heap → Prop} {YP : World → Heap → Prop} {d : DefRec} {K : Params → PySem.W.Frag} {sp : PySem.W.Frag → Sp} {x : Str}
    (most : l.most = some n) (few : n ≤ sizeLine) (nodef : d.params.defaults = []) (room : Room k callerA) (read : ∀ (w : World) (h : Heap), YP w h → (K w.params).In h)
    (F : ∀ (w : World) (mg : Str → Option Value) (fa : Addr) (h : Heap), (K w.params).In h → h.Ns mainGlobals mg → mg d.name = some (.ref fa) → ∃ fd : FuncData, (∀ (s : Shared) (u : Value), BindsTo s fd ⟨[u], []⟩ [(x, u)]) ∧
      ∀ base : Heap, (K w.params).In base → base.Ns mainGlobals mg → FnG l.prog w (K w.params) mg base k fa fd [x] (sp (K w.params)))
    (want : ∀ (K : PySem.W.Frag) (H : Hp) (a : Addr) (ns : List Int), ns.length ≤ n → Only H → SqL K H a (ns.map V.int) → sp K [.ref a] H (fun v _ => v = .bl true) fun _ _ _ => False) : PySem.W.WalkO q loose XP YP l.row.toRowW d [] fun f vs => PySem.call f vs := by
  refine Att.attach_call most nodef fun w s₀ s₁ mg mb fa o pm cd doc a vs ns G Y ho hd hcd at_f obj isI len gens => ?_
  have kin := read w _ Y
  obtain ⟨fd, bind, promise⟩ := F w mg fa _ kin G.T.g at_f
  have L : Left (K w.params) mg s₁ a vs ns := ⟨kin, G.T.g, ⟨mb, G.T.b, G.T.builtins⟩, G.T.nolimit, gens, obj, isI, Nat.le_trans len few⟩
  exact L.law room promise bind fun H only sq => want _ H a ns len only sq
end K42

set_option Elab.async false
set_option linter.all false
set_option maxRecDepth 100000
set_option maxHeartbeats 4000000
namespace K42
open PySem PySem.Spec PyProof.Rows L2
/-! ### the text by places -/
def topS (i : Nat) : Stmt := PySem.Challenge.pw_bandsplits_k42_whole_polynomials_of_powe.main.body.getD i (.Pass ⟨0, 0, 0, 0⟩)
abbrev s2 : Stmt := topS 2
theorem sc2 : FnScope ["value"] ["value"] (defScope s2) := ⟨rfl, rfl, rfl, by decide +kernel, rfl, by decide +kernel, by decide +kernel⟩
abbrev s3 : Stmt := topS 3
theorem sc3 : FnScope ["value", "low", "high"] ["value", "low", "high"] (defScope s3) := ⟨rfl, rfl, rfl, by decide +kernel, rfl, by decide +kernel, by decide +kernel⟩
abbrev s4 : Stmt := topS 4
theorem sc4 : FnScope ["value", "many", "each"] ["value", "many"] (defScope s4) := ⟨rfl, rfl, rfl, by decide +kernel, rfl, by decide +kernel, by decide +kernel⟩
abbrev s5 : Stmt := topS 5
theorem sc5 : FnScope ["numbers", "found", "each"] ["numbers"] (defScope s5) := ⟨rfl, rfl, rfl, by decide +kernel, rfl, by decide +kernel, by decide +kernel⟩
abbrev s8 : Stmt := topS 8
theorem sc8 : FnScope ["value"] ["value"] (defScope s8) := ⟨rfl, rfl, rfl, by decide +kernel, rfl, by decide +kernel, by decide +kernel⟩
abbrev s9 : Stmt := topS 9
theorem sc9 : FnScope ["top", "low", "part"] ["top", "low"] (defScope s9) := ⟨rfl, rfl, rfl, by decide +kernel, rfl, by decide +kernel, by decide +kernel⟩
abbrev s10 : Stmt := topS 10
theorem sc10 : FnScope ["one", "two"] ["one", "two"] (defScope s10) := ⟨rfl, rfl, rfl, by decide +kernel, rfl, by decide +kernel, by decide +kernel⟩
abbrev s11 : Stmt := topS 11
theorem sc11 : FnScope ["one", "two"] ["one", "two"] (defScope s11) := ⟨rfl, rfl, rfl, by decide +kernel, rfl, by decide +kernel, by decide +kernel⟩
abbrev s17 : Stmt := topS 17
theorem sc17 : FnScope ["value", "each"] ["value"] (defScope s17) := ⟨rfl, rfl, rfl, by decide +kernel, rfl, by decide +kernel, by decide +kernel⟩
abbrev s18 : Stmt := topS 18
theorem sc18 : FnScope ["value"] ["value"] (defScope s18) := ⟨rfl, rfl, rfl, by decide +kernel, rfl, by decide +kernel, by decide +kernel⟩
abbrev s20 : Stmt := topS 20
theorem sc20 : FnScope ["place", "order", "found", "_"] ["place", "order"] (defScope s20) := ⟨rfl, rfl, rfl, by decide +kernel, rfl, by decide +kernel, by decide +kernel⟩
abbrev s21 : Stmt := topS 21
theorem sc21 : FnScope ["row", "order", "found", "at", "number"] ["row", "order"] (defScope s21) := ⟨rfl, rfl, rfl, by decide +kernel, rfl, by decide +kernel, by decide +kernel⟩
abbrev s22 : Stmt := topS 22
theorem sc22 : FnScope ["row", "order", "found", "place"] ["row", "order"] (defScope s22) := ⟨rfl, rfl, rfl, by decide +kernel, rfl, by decide +kernel, by decide +kernel⟩
abbrev s25 : Stmt := topS 25
theorem sc25 : FnScope ["value"] ["value"] (defScope s25) := ⟨rfl, rfl, rfl, by decide +kernel, rfl, by decide +kernel, by decide +kernel⟩
abbrev s26 : Stmt := topS 26
theorem sc26 : FnScope ["row", "order"] ["row", "order"] (defScope s26) := ⟨rfl, rfl, rfl, by decide +kernel, rfl, by decide +kernel, by decide +kernel⟩
abbrev s28 : Stmt := topS 28
theorem sc28 : FnScope ["_law_script", "_law_turn", "_law_mixed", "_law_cell", "_law_own"] ["_law_script", "_law_turn"] (defScope s28) := ⟨rfl, rfl, rfl, by decide +kernel, rfl, by decide +kernel, by decide +kernel⟩
abbrev s29 : Stmt := topS 29
theorem sc29 : FnScope ["_law_well_here", "_law_count", "_law_digit"] ["_law_well_here", "_law_count"] (defScope s29) := ⟨rfl, rfl, rfl, by decide +kernel, rfl, by decide +kernel, by decide +kernel⟩
abbrev s30 : Stmt := topS 30
theorem sc30 : FnScope ["_law_well_here", "_law_some"] ["_law_well_here", "_law_some"] (defScope s30) := ⟨rfl, rfl, rfl, by decide +kernel, rfl, by decide +kernel, by decide +kernel⟩
abbrev s31 : Stmt := topS 31
theorem sc31 : FnScope ["_law_script"] ["_law_script"] (defScope s31) := ⟨rfl, rfl, rfl, by decide +kernel, rfl, by decide +kernel, by decide +kernel⟩
abbrev s32 : Stmt := topS 32
theorem sc32 : FnScope ["_law_one", "_law_two"] ["_law_one", "_law_two"] (defScope s32) := ⟨rfl, rfl, rfl, by decide +kernel, rfl, by decide +kernel, by decide +kernel⟩
abbrev s33 : Stmt := topS 33
theorem sc33 : FnScope ["_law_n", "_law_m", "_law_by"] ["_law_n", "_law_m"] (defScope s33) := ⟨rfl, rfl, rfl, by decide +kernel, rfl, by decide +kernel, by decide +kernel⟩
abbrev s34 : Stmt := topS 34
theorem sc34 : FnScope ["_law_a", "_law_b"] ["_law_a", "_law_b"] (defScope s34) := ⟨rfl, rfl, rfl, by decide +kernel, rfl, by decide +kernel, by decide +kernel⟩
abbrev s35 : Stmt := topS 35
theorem sc35 : FnScope ["_law_a", "_law_b"] ["_law_a", "_law_b"] (defScope s35) := ⟨rfl, rfl, rfl, by decide +kernel, rfl, by decide +kernel, by decide +kernel⟩
abbrev s36 : Stmt := topS 36
theorem sc36 : FnScope ["_law_lot", "_law_k"] ["_law_lot"] (defScope s36) := ⟨rfl, rfl, rfl, by decide +kernel, rfl, by decide +kernel, by decide +kernel⟩
abbrev s37 : Stmt := topS 37
theorem sc37 : FnScope ["_law_lot", "_law_first", "_law_k"] ["_law_lot"] (defScope s37) := ⟨rfl, rfl, rfl, by decide +kernel, rfl, by decide +kernel, by decide +kernel⟩
abbrev s38 : Stmt := topS 38
theorem sc38 : FnScope ["_law_one", "_law_two", "_law_k", "_law_found"] ["_law_one", "_law_two"] (defScope s38) := ⟨rfl, rfl, rfl, by decide +kernel, rfl, by decide +kernel, by decide +kernel⟩
abbrev s39 : Stmt := topS 39
theorem sc39 : FnScope ["_law_lot", "_law_by", "_law_k"] ["_law_lot", "_law_by"] (defScope s39) := ⟨rfl, rfl, rfl, by decide +kernel, rfl, by decide +kernel, by decide +kernel⟩
abbrev s40 : Stmt := topS 40
theorem sc40 : FnScope ["_law_one", "_law_two"] ["_law_one", "_law_two"] (defScope s40) := ⟨rfl, rfl, rfl, by decide +kernel, rfl, by decide +kernel, by decide +kernel⟩
abbrev s41 : Stmt := topS 41
theorem sc41 : FnScope ["_law_lot", "_law_by", "_law_k"] ["_law_lot", "_law_by"] (defScope s41) := ⟨rfl, rfl, rfl, by decide +kernel, rfl, by decide +kernel, by decide +kernel⟩
abbrev s42 : Stmt := topS 42
theorem sc42 : FnScope ["_law_well_here", "_law_tip", "_law_below"] ["_law_well_here"] (defScope s42) := ⟨rfl, rfl, rfl, by decide +kernel, rfl, by decide +kernel, by decide +kernel⟩
abbrev s43 : Stmt := topS 43
theorem sc43 : FnScope ["_law_well_here", "_law_most", "_law_first", "_law_length", "_law_inner", "_law_k"] ["_law_well_here", "_law_most"] (defScope s43) := ⟨rfl, rfl, rfl, by decide +kernel, rfl, by decide +kernel, by decide +kernel⟩
abbrev s44 : Stmt := topS 44
theorem sc44 : FnScope ["_law_base", "_law_count", "_law_found", "_law_turn"] ["_law_base", "_law_count"] (defScope s44) := ⟨rfl, rfl, rfl, by decide +kernel, rfl, by decide +kernel, by decide +kernel⟩
abbrev s45 : Stmt := topS 45
theorem sc45 : FnScope ["_law_some", "_law_found", "_law_each"] ["_law_some"] (defScope s45) := ⟨rfl, rfl, rfl, by decide +kernel, rfl, by decide +kernel, by decide +kernel⟩
abbrev s46 : Stmt := topS 46
theorem sc46 : FnScope ["_law_j", "_law_found", "_law_turn", "_law_k"] ["_law_j"] (defScope s46) := ⟨rfl, rfl, rfl, by decide +kernel, rfl, by decide +kernel, by decide +kernel⟩
abbrev s47 : Stmt := topS 47
theorem sc47 : FnScope ["_law_lot", "_law_j", "_law_found", "_law_power_here", "_law_choices_here", "_law_some", "_law_k"] ["_law_lot", "_law_j"] (defScope s47) := ⟨rfl, rfl, rfl, by decide +kernel, rfl, by decide +kernel, by decide +kernel⟩
abbrev s48 : Stmt := topS 48
theorem sc48 : FnScope ["_law_lot", "_law_n", "_law_j", "_law_k"] ["_law_lot", "_law_n", "_law_j"] (defScope s48) := ⟨rfl, rfl, rfl, by decide +kernel, rfl, by decide +kernel, by decide +kernel⟩
abbrev s49 : Stmt := topS 49
theorem sc49 : FnScope ["_law_numbers", "_law_n", "_law_k"] ["_law_numbers", "_law_n"] (defScope s49) := ⟨rfl, rfl, rfl, by decide +kernel, rfl, by decide +kernel, by decide +kernel⟩
abbrev s50 : Stmt := topS 50
theorem sc50 : FnScope ["_law_well_here", "_law_lot", "_law_turn", "_law_line_here", "_law_far", "_law_j", "_law_due", "_law_told", "_law_n"] ["_law_well_here"] (defScope s50) := ⟨rfl, rfl, rfl, by decide +kernel, rfl, by decide +kernel, by decide +kernel⟩
abbrev s51 : Stmt := topS 51
theorem sc51 : FnScope ["_law_script", "_law_turn"] ["_law_script"] (defScope s51) := ⟨rfl, rfl, rfl, by decide +kernel, rfl, by decide +kernel, by decide +kernel⟩
/-- a def of the text, by the name that holds it -/
structure At (K : PySem.W.Frag) (mg : Str → Option Value) (x : Str) (st : Stmt) (ps : List Str) (f : Addr) (fd : FuncData) : Prop where
  F : Fun K x x st f fd
  m : mg x = some (.ref f)
  b : Binds K fd ps []
/-- what the top has left -/
structure Tops (K : PySem.W.Frag) (mg : Str → Option Value) where
  fa : Nat → Addr
  fd : Nat → FuncData
  d2 : At K mg "is_whole" s2 ["value"] (fa 2) (fd 2)
  d3 : At K mg "is_between" s3 ["value", "low", "high"] (fa 3) (fd 3)
  d4 : At K mg "are_wholes" s4 ["value", "many"] (fa 4) (fd 4)
  d5 : At K mg "divisor_of" s5 ["numbers"] (fa 5) (fd 5)
  d8 : At K mg "is_ratio" s8 ["value"] (fa 8) (fd 8)
  d9 : At K mg "ratio" s9 ["top", "low"] (fa 9) (fd 9)
  d10 : At K mg "plus" s10 ["one", "two"] (fa 10) (fd 10)
  d11 : At K mg "times" s11 ["one", "two"] (fa 11) (fd 11)
  d17 : At K mg "is_laid" s17 ["value"] (fa 17) (fd 17)
  d18 : At K mg "check_row" s18 ["value"] (fa 18) (fd 18)
  d20 : At K mg "place_power" s20 ["place", "order"] (fa 20) (fd 20)
  d21 : At K mg "power_sum" s21 ["row", "order"] (fa 21) (fd 21)
  d22 : At K mg "power_led" s22 ["row", "order"] (fa 22) (fd 22)
  d25 : At K mg "check_order" s25 ["value"] (fa 25) (fd 25)
  d26 : At K mg "on_power" s26 ["row", "order"] (fa 26) (fd 26)
  d28 : At K mg "_law_well" s28 ["_law_script", "_law_turn"] (fa 28) (fd 28)
  d29 : At K mg "_law_take" s29 ["_law_well_here", "_law_count"] (fa 29) (fd 29)
  d30 : At K mg "_law_pick" s30 ["_law_well_here", "_law_some"] (fa 30) (fd 30)
  d31 : At K mg "_law_rounds" s31 ["_law_script"] (fa 31) (fd 31)
  d32 : At K mg "_law_common" s32 ["_law_one", "_law_two"] (fa 32) (fd 32)
  d33 : At K mg "_law_ratio" s33 ["_law_n", "_law_m"] (fa 33) (fd 33)
  d34 : At K mg "_law_sum" s34 ["_law_a", "_law_b"] (fa 34) (fd 34)
  d35 : At K mg "_law_product" s35 ["_law_a", "_law_b"] (fa 35) (fd 35)
  d36 : At K mg "_law_cleared" s36 ["_law_lot"] (fa 36) (fd 36)
  d37 : At K mg "_law_line" s37 ["_law_lot"] (fa 37) (fd 37)
  d38 : At K mg "_law_plus" s38 ["_law_one", "_law_two"] (fa 38) (fd 38)
  d39 : At K mg "_law_scaled" s39 ["_law_lot", "_law_by"] (fa 39) (fd 39)
  d40 : At K mg "_law_less" s40 ["_law_one", "_law_two"] (fa 40) (fd 40)
  d41 : At K mg "_law_later" s41 ["_law_lot", "_law_by"] (fa 41) (fd 41)
  d42 : At K mg "_law_number" s42 ["_law_well_here"] (fa 42) (fd 42)
  d43 : At K mg "_law_draw" s43 ["_law_well_here", "_law_most"] (fa 43) (fd 43)
  d44 : At K mg "_law_power" s44 ["_law_base", "_law_count"] (fa 44) (fd 44)
  d45 : At K mg "_law_total" s45 ["_law_some"] (fa 45) (fd 45)
  d46 : At K mg "_law_choices" s46 ["_law_j"] (fa 46) (fd 46)
  d47 : At K mg "_law_polynomial" s47 ["_law_lot", "_law_j"] (fa 47) (fd 47)
  d48 : At K mg "_law_made" s48 ["_law_lot", "_law_n", "_law_j"] (fa 48) (fd 48)
  d49 : At K mg "_law_worth" s49 ["_law_numbers", "_law_n"] (fa 49) (fd 49)
  d50 : At K mg "_law_right" s50 ["_law_well_here"] (fa 50) (fd 50)
  d51 : At K mg "law" s51 ["_law_script"] (fa 51) (fd 51)
  z_isinstance : mg "isinstance" = none
  z_int : mg "int" = none
  z_bool : mg "bool" = none
  z_tuple : mg "tuple" = none
  z_len : mg "len" = none
  z_all : mg "all" = none
  z_range : mg "range" = none
  z_enumerate : mg "enumerate" = none
  z_abs : mg "abs" = none
  z_divmod : mg "divmod" = none
  z_max : mg "max" = none
  z_min : mg "min" = none
  z_dict : mg "dict" = none
  z_list : mg "list" = none
  z_repr : mg "repr" = none
  comb : mg "comb" = some (.builtin "math.comb")
  gcd : mg "gcd" = some (.builtin "math.gcd")
  za : Addr
  zero : mg "ZERO" = some (.ref za)
  zeroAt : ∀ H : Hp, SqT K H za [.int 0, .int 1]
  mo : ∃ t, mg "MOST_ORDER" = some (.int 8 t)
section
variable {X : Cx} {k : Nat} {f : Addr} {fd : FuncData} {ps : List Str} {sp : Sp} {x : Str} {st : Stmt} {p pos : Pos} {e : Expr} {es : List Expr} {t : TA}
/-- a call of such a def -/
theorem pe_callD (D : At X.K X.mg x st ps f fd) (G : FnOk X.prog X.w X.K X.mg X.base CX0 k f fd ps sp) (hr : Room k X.A) (ha : PA X (e :: es) t) (hg : Gl X x := by rfl) (hdb : (x == ("__debug__" : Str)) = false := by decide)
    (he : starEach (e :: es) X.env = (false, eval e X.env) :: starEach es X.env := by rfl) (hpl : (backTo pos (starEach es X.env)).any (·.1) = false := by rfl) : PE X (.Call (.Name x p) (e :: es) [] pos) (tCall sp [] E0 t) :=
  pe_call G hr hg D.m D.F.kp D.b .nil pass0 ha hdb he hpl
end
end K42

set_option Elab.async false
set_option linter.all false
set_option maxRecDepth 100000
set_option maxHeartbeats 4000000
namespace K42
open PySem PySem.Spec PyProof.Rows L2
theorem tyT {K : PySem.W.Frag} {H : Hp} {a : Addr} {xs : List V} (h : SqT K H a xs) : TyX K H (.ref a) (.type "tuple") := by
  rcases h with (h | ⟨o, h⟩) | ⟨o, its, n, h, hc, _⟩
  · exact .base (.tup h)
  · exact .fTuple h
  · exact .kTuple h hc
/-! ### the promises -/
def spWhole : Sp := fun vs H Q _ => ∃ i : Int, vs = [.int i] ∧ Q (.bl true) H
def spBetween : Sp := fun vs H Q _ => ∃ v a b : Int, vs = [.int v, .int a, .int b] ∧ a ≤ v ∧ v ≤ b ∧ Q (.bl true) H
def spWholes (K : PySem.W.Frag) : Sp := fun vs H Q _ => ∃ (p : Addr) (a b : Int), vs = [.ref p, .int 2] ∧ SqT K H p [.int a, .int b] ∧ ∀ H', Same H H' → Q (.bl true) H'
def spDiv (K : PySem.W.Frag) : Sp := fun vs H Q _ => ∃ (p : Addr) (a b : Int), vs = [.ref p] ∧ SqT K H p [.int a, .int b] ∧ Q (.int ((Nat.gcd a.natAbs b.natAbs : Nat) : Int)) H
def spIsRatio (K : PySem.W.Frag) : Sp := fun vs H Q _ => ∃ v q, vs = [v] ∧ Fr K H v q ∧ ∀ H', Same H H' → Q (.bl true) H'
def spRatio (K : PySem.W.Frag) : Sp := fun vs H Q _ => ∃ n m : Int, vs = [.int n, .int m] ∧ (0 < m ∧ m.natAbs < 2 ^ 600) ∧ ∀ v H', Same H H' → Fr K H' v (mkRat n m.toNat) → Q v H'
/-- two fractions in, one out -/
def spBin (K : PySem.W.Frag) (f : Rat → Rat → Rat) : Sp := fun vs H Q _ => ∃ v1 v2 q1 q2, vs = [v1, v2] ∧ Fr K H v1 q1 ∧ Fr K H v2 q2 ∧ Sm q1 ∧ Sm q2 ∧ ∀ v H', Same H H' → Fr K H' v (f q1 q2) → Q v H'
section
variable {P : Program} {w : World} {K : PySem.W.Frag} {mg : Str → Option Value} {base : Heap}
theorem ok2 (T : Tops K mg) : FnOk P w K mg base CX0 1 (T.fa 2) (T.fd 2) ["value"] spWhole := by
  refine T.d2.F.ok sc2 (fun vs H Q E h => ?_) (fun cdv A outer s H vs Q E hr h => ?_)
  · obtain ⟨i, rfl, _⟩ := h
    rfl
  · obtain ⟨i, rfl, q⟩ := h
    refine ⟨_, pss_one (ps_ret (pe_and (pe_callB call_isi (by rfl) T.z_isinstance boot_isinstance (pa_cons (pv 0) (pa_cons (pe_bltn (v := .ty "int") (by rfl) T.z_int boot_int rfl) pa_nil)))
      (pe_one (pe_not (pe_callB call_isi (by rfl) T.z_isinstance boot_isinstance (pa_cons (pv 0) (pa_cons (pe_bltn (v := .ty "bool") (by rfl) T.z_bool boot_bool rfl) pa_nil))))))), ?_⟩
    refine ⟨_, rfl, _, _, _, _, true, rfl, .ty "int", .base (.int i), kit_ty (by decide +kernel), true, rfl, iteT ?_⟩
    exact ⟨_, rfl, _, _, _, _, false, rfl, .ty "bool", .base (.int i), kit_ty (by decide +kernel), false, rfl, q⟩
theorem ok3 (T : Tops K mg) : FnOk P w K mg base CX0 2 (T.fa 3) (T.fd 3) ["value", "low", "high"] spBetween := by
  refine T.d3.F.ok sc3 (fun vs H Q E h => ?_) (fun cdv A outer s H vs Q E hr h => ?_)
  · obtain ⟨i, a, b, rfl, _⟩ := h
    rfl
  · obtain ⟨i, a, b, rfl, ha, hb, q⟩ := h
    refine ⟨_, pss_one (ps_ret (pe_and (pe_callD T.d2 (ok2 T) hr (pa_cons (pv 0) pa_nil)) (pe_one (pe_chain op_le op_le (pv 1) (pv 0) (pv 2))))), ?_⟩
    refine ⟨_, rfl, i, rfl, true, rfl, iteT ?_⟩
    refine ⟨_, rfl, _, rfl, a, i, rfl, rfl, _, rfl, ?_⟩
    rw [decide_eq_true ha]
    refine iteT ⟨_, rfl, i, b, rfl, rfl, ?_⟩
    show Q (.bl (decide (i ≤ b))) H
    rw [decide_eq_true hb]
    exact q
theorem ok4 (T : Tops K mg) : FnOk P w K mg base CX0 2 (T.fa 4) (T.fd 4) ["value", "many"] (spWholes K) := by
  refine T.d4.F.ok sc4 (fun vs H Q E h => ?_) (fun cdv A outer s H vs Q E hr h => ?_)
  · obtain ⟨p, a, b, rfl, _⟩ := h
    rfl
  · obtain ⟨p, a, b, rfl, hp, q⟩ := h
    refine ⟨_, pss_one (ps_ret (pe_and (pe_callB call_isi (by rfl) T.z_isinstance boot_isinstance (pa_cons (pv 0) (pa_cons (pe_bltn (v := .ty "tuple") (by rfl) T.z_tuple boot_tuple rfl) pa_nil)))
      (pe_and (pe_cmpR op_eq (pe_callB call_len_seq (by rfl) T.z_len boot_len (pa_cons (pv 0) pa_nil)) (pv 1) (nomark _))
      (pe_one (pe_callB (cr_all rfl) (by rfl) T.z_all boot_all (pa_cons (pe_lc (own := [("each", 2)]) (g := gName 2) (tt := tYes) (by rfl) sc4.nd (pi_tup (pv 0)) (blkOk_by (N := ["value", "many", "each"]) (sc := defScope s4) (by decide +kernel))
        (fun _ _ _ _ _ => pg_name (i := 2) sc4.nd rfl (Or.inl rfl)) (fun _ _ _ _ _ => pts_nil) (fun _ _ _ _ _ => pe_callD T.d2 (ok2 T) hr (pa_cons (pv 2) pa_nil))) pa_nil)))))), ?_⟩
    refine ⟨_, rfl, _, _, _, _, true, rfl, .ty "tuple", tyT hp, kit_ty (by decide +kernel), true, rfl, iteT ?_⟩
    refine ⟨_, rfl, p, _, rfl, .inr hp, _, rfl, rfl, true, rfl, iteT ?_⟩
    refine ⟨_, rfl, p, rfl, ⟨_, hp⟩, fun D nD => ?_⟩
    have s0 : Same H (upd H D (.lst [])) := same_upd nD
    refine lc_itY (walk_tup (K := K) (a := p) (xs := [.int a, .int b])) (fun i H1 => Same H H1 ∧ H1 D = some (.lst (List.replicate i (.bl true)))) ⟨s0, upd_same⟩ (fun i H1 _ h => Same.tup h.1 hp) ?_ ?_
    · rintro i x H1 H2 hlt ⟨s1, hD⟩ ⟨rfl, hx⟩
      have hi : ∃ z, x = .int z := by
        match i, hx with
        | 0, hx => exact ⟨a, (Option.some.inj hx).symm⟩
        | 1, hx => exact ⟨b, (Option.some.inj hx).symm⟩
      obtain ⟨z, rfl⟩ := hi
      have hlt : i < 2 := hlt
      refine ⟨rfl, _, rfl, z, rfl, _, hD, small1000 (by rw [List.length_replicate]; omega), fun c o e => ?_, ?_⟩
      · rw [upd_ne (ne_of_none e nD)]
        exact s1 _ _ e
      · rw [upd_same, ← List.replicate_succ']
    · rintro H1 ⟨s1, hD⟩
      exact ⟨D, [true, true], rfl, SqL.of hD, q _ s1⟩
theorem ok5 (T : Tops K mg) : FnOk P w K mg base CX0 1 (T.fa 5) (T.fd 5) ["numbers"] (spDiv K) := by
  refine T.d5.F.ok sc5 (fun vs H Q E h => ?_) (fun cdv A outer s H vs Q E hr h => ?_)
  · obtain ⟨p, a, b, rfl, _⟩ := h
    rfl
  · obtain ⟨p, a, b, rfl, hp, q⟩ := h
    refine ⟨_, pss_cons (ps_set (i := 1) sc5.nd rfl (.inl rfl) pe_int)
      (pss_cons (ps_for PassesOwn.never rfl (pi_tup (pv 0)) (pg_name (i := 2) sc5.nd rfl (.inl rfl))
        (pss_one (ps_set (i := 1) sc5.nd rfl (.inl rfl) (pe_callBfun cr_gcd (by rfl) T.gcd (pa_cons (pv 1) (pa_cons (pv 2) pa_nil))))))
      (pss_one (ps_ret (pv 1)))), ?_⟩
    refine ⟨_, rfl, p, rfl, ⟨_, hp⟩, for_tup (K := K) (a := p) (xs := [.int a, .int b]) (fun i σ H1 => H1 = H ∧ ∃ c, σ = [some (.ref p), some (.int ([(0 : Int), (a.natAbs : Int), ((Nat.gcd a.natAbs b.natAbs : Nat) : Int)].getD i 0)), c]) ⟨rfl, none, rfl⟩ (fun i σ H1 _ h => h.1 ▸ hp) ?_ ?_⟩
    · rintro i x σ H1 hx ⟨rfl, c, rfl⟩
      match i, hx with
      | 0, hx =>
        obtain rfl : V.int a = x := Option.some.inj hx
        refine ⟨_, rfl, _, rfl, 0, a, rfl, rfl, some (.int a), ?_⟩
        have e : ((Nat.gcd (Int.natAbs 0) a.natAbs : Nat) : Int) = (a.natAbs : Int) := by rw [Int.natAbs_zero, Nat.gcd_zero_left]
        rw [e]
        rfl
      | 1, hx =>
        obtain rfl : V.int b = x := Option.some.inj hx
        refine ⟨_, rfl, _, rfl, (a.natAbs : Int), b, rfl, rfl, some (.int b), ?_⟩
        rw [Int.natAbs_natCast]
        rfl
    · rintro σ H1 ⟨rfl, c, rfl⟩
      exact ⟨_, rfl, q⟩
theorem ok8 (T : Tops K mg) : FnOk P w K mg base CX0 3 (T.fa 8) (T.fd 8) ["value"] (spIsRatio K) := by
  refine T.d8.F.ok sc8 (fun vs H Q E h => ?_) (fun cdv A outer s H vs Q E hr h => ?_)
  · obtain ⟨v, r, rfl, _⟩ := h
    rfl
  · obtain ⟨v, r, rfl, hv, q⟩ := h
    obtain ⟨p, rfl, hp⟩ := id hv
    refine ⟨_, pss_one (ps_ret (pe_and (pe_callD T.d4 (ok4 T) hr (pa_cons (pv 0) (pa_cons pe_int pa_nil))) (pe_and (pe_cmpR op_gt (pv1 0) pe_int (nomark _))
      (pe_one (pe_cmpR op_eq (pe_callD T.d5 (ok5 T) (hr.mono (by decide)) (pa_cons (pv 0) pa_nil)) pe_int (nomark _)))))), ?_⟩
    refine ⟨_, rfl, p, _, _, rfl, hp, fun H1 s1 => ⟨true, rfl, iteT ?_⟩⟩
    refine ⟨_, r, rfl, hv.same s1, _, _, rfl, rfl, _, rfl, ?_⟩
    rw [decide_eq_true (show ((r.den : Nat) : Int) > 0 from den_pos r)]
    refine iteT ⟨_, rfl, p, _, _, rfl, Same.tup s1 hp, rfl, ?_⟩
    have e : Nat.gcd r.num.natAbs ((r.den : Int)).natAbs = 1 := by rw [Int.natAbs_natCast]; exact r.reduced
    rw [e]
    exact q _ s1
theorem gcd_pos_of {n m : Int} (h : 0 < m) : 0 < Nat.gcd n.natAbs m.natAbs := Nat.gcd_pos_of_pos_right _ (by omega)
theorem toNat_abs {m : Int} (h : 0 < m) : m.natAbs = m.toNat := by omega
theorem frac_num {n m : Int} (h : 0 < m) : n / ((Nat.gcd n.natAbs m.natAbs : Nat) : Int) = (mkRat n m.toNat).num := by
  rw [mk_num (by omega), toNat_abs h]
theorem frac_den {n m : Int} (h : 0 < m) : m / ((Nat.gcd n.natAbs m.natAbs : Nat) : Int) = (((mkRat n m.toNat).den : Nat) : Int) := by
  rw [mk_den (by omega), toNat_abs h, Int.natCast_ediv]
  congr 1
  omega
theorem gcd_div {n m : Int} (h : 0 < m) (hz : m.natAbs < 2 ^ 600) : (0 : Int) < ((Nat.gcd n.natAbs m.natAbs : Nat) : Int) ∧ (((Nat.gcd n.natAbs m.natAbs : Nat) : Int)).natAbs < 2 ^ 600 := by
  have h1 := gcd_pos_of (n := n) h
  have h2 : Nat.gcd n.natAbs m.natAbs ≤ m.natAbs := Nat.gcd_le_right _ (by omega)
  refine ⟨by omega, ?_⟩
  rw [Int.natAbs_natCast]
  exact Nat.lt_of_le_of_lt h2 hz
theorem cdiv {i n m : Int} (h : 0 < m) (hz : m.natAbs < 2 ^ 600) : CDivW i ((Nat.gcd n.natAbs m.natAbs : Nat) : Int) :=
  wide_div (gcd_div h hz).1 (gcd_div h hz).2 (by decide) (by decide)
theorem ok9 (T : Tops K mg) : FnOk P w K mg base CX0 2 (T.fa 9) (T.fd 9) ["top", "low"] (spRatio K) := by
  refine T.d9.F.ok sc9 (fun vs H Q E h => ?_) (fun cdv A outer s H vs Q E hr h => ?_)
  · obtain ⟨n, m, rfl, _⟩ := h
    rfl
  · obtain ⟨n, m, rfl, ⟨hm, hz⟩, q⟩ := h
    refine ⟨_, pss_cons (ps_set (i := 2) sc9.nd rfl (.inl rfl) (pe_ifExp (pt_cmpR op_gt (pv 1) pe_int (nomark _)) (pe_callD T.d5 (ok5 T) hr (pa_cons (pe_tup (pa_cons (pv 0) (pa_cons (pv 1) pa_nil))) pa_nil))
        (pe_un un_neg (pe_callD T.d5 (ok5 T) hr (pa_cons (pe_tup (pa_cons (pv 0) (pa_cons (pv 1) pa_nil))) pa_nil)))))
      (pss_one (ps_ret (pe_tup (pa_cons (pe_op op_fdivW (pv 0) (pv 2)) (pa_cons (pe_op op_fdivW (pv 1) (pv 2)) pa_nil))))), ?_⟩
    refine ⟨_, rfl, m, 0, rfl, rfl, _, rfl, ?_⟩
    rw [decide_eq_true (show m > 0 from hm)]
    refine iteT ⟨_, rfl, _, rfl, (by show 2 ≤ sizeLine; decide), fun t nt => ?_⟩
    refine ⟨t, n, m, rfl, SqT.of upd_same, ?_⟩
    refine ⟨_, rfl, _, rfl, n, _, rfl, rfl, cdiv hm hz, _, rfl, _, rfl, m, _, rfl, rfl, cdiv hm hz, (by show 2 ≤ sizeLine; decide), fun p np => ?_⟩
    exact q _ _ ((same_upd nt).trans (same_upd np)) (Fr.new (frac_num hm) (frac_den hm))
theorem mulW_sm {p q : Rat} (hp : Sm p) (hq : Sm q) : CMulW p.num q.num ∧ CMulW p.num (q.den : Int) ∧ CMulW (p.den : Int) (q.den : Int) :=
  ⟨wide_mul hp.num hq.num (by decide) (by decide) (by decide), wide_mul hp.num (by rw [Int.natAbs_natCast]; exact hq.den) (by decide) (by decide) (by decide),
    wide_mul (by rw [Int.natAbs_natCast]; exact hp.den) (by rw [Int.natAbs_natCast]; exact hq.den) (by decide) (by decide) (by decide)⟩
theorem den_mul {p q : Rat} (hp : Sm p) (hq : Sm q) : (0 : Int) < (p.den : Int) * (q.den : Int) ∧ ((p.den : Int) * (q.den : Int)).natAbs < 2 ^ 600 := by
  refine ⟨Int.mul_pos (den_pos p) (den_pos q), ?_⟩
  rw [Int.natAbs_mul, Int.natAbs_natCast, Int.natAbs_natCast]
  have h1 : p.den * q.den < 2 ^ 250 * 2 ^ 250 := Nat.mul_lt_mul'' hp.den hq.den
  rw [← Nat.pow_add] at h1
  exact Nat.lt_of_lt_of_le h1 (Nat.pow_le_pow_right (by decide) (by decide))
theorem plus_eq (p q : Rat) : mkRat (p.num * (q.den : Int) + q.num * (p.den : Int)) ((p.den : Int) * (q.den : Int)).toNat = p + q := by
  rw [add_mk]
  congr 1
theorem times_eq (p q : Rat) : mkRat (p.num * q.num) ((p.den : Int) * (q.den : Int)).toNat = p * q := by
  rw [mul_mk]
  congr 1
theorem ok10 (T : Tops K mg) : FnOk P w K mg base CX0 3 (T.fa 10) (T.fd 10) ["one", "two"] (spBin K fun p q => p + q) := by
  refine T.d10.F.ok sc10 (fun vs H Q E h => ?_) (fun cdv A outer s H vs Q E hr h => ?_)
  · obtain ⟨v1, v2, q1, q2, rfl, _⟩ := h
    rfl
  · obtain ⟨v1, v2, q1, q2, rfl, h1, h2, m1, m2, q⟩ := h
    refine ⟨_, pss_one (ps_ret (pe_callD T.d9 (ok9 T) hr (pa_cons (pe_op op_add (pe_op op_mulW (pv0 0) (pv1 1)) (pe_op op_mulW (pv0 1) (pv1 0))) (pa_cons (pe_op op_mulW (pv1 0) (pv1 1)) pa_nil)))), ?_⟩
    refine ⟨_, q1, rfl, h1, _, q2, rfl, h2, _, _, rfl, rfl, (mulW_sm m1 m2).2.1, ?_⟩
    refine ⟨_, q2, rfl, h2, _, q1, rfl, h1, _, _, rfl, rfl, (mulW_sm m2 m1).2.1, _, _, rfl, rfl, ?_⟩
    refine ⟨_, q1, rfl, h1, _, q2, rfl, h2, _, _, rfl, rfl, (mulW_sm m1 m2).2.2, _, _, rfl, den_mul m1 m2, fun v H' s' f => q v H' s' ?_⟩
    rw [plus_eq] at f
    exact f
theorem ok11 (T : Tops K mg) : FnOk P w K mg base CX0 3 (T.fa 11) (T.fd 11) ["one", "two"] (spBin K fun p q => p * q) := by
  refine T.d11.F.ok sc11 (fun vs H Q E h => ?_) (fun cdv A outer s H vs Q E hr h => ?_)
  · obtain ⟨v1, v2, q1, q2, rfl, _⟩ := h
    rfl
  · obtain ⟨v1, v2, q1, q2, rfl, h1, h2, m1, m2, q⟩ := h
    refine ⟨_, pss_one (ps_ret (pe_callD T.d9 (ok9 T) hr (pa_cons (pe_op op_mulW (pv0 0) (pv0 1)) (pa_cons (pe_op op_mulW (pv1 0) (pv1 1)) pa_nil)))), ?_⟩
    refine ⟨_, q1, rfl, h1, _, q2, rfl, h2, _, _, rfl, rfl, (mulW_sm m1 m2).1, ?_⟩
    refine ⟨_, q1, rfl, h1, _, q2, rfl, h2, _, _, rfl, rfl, (mulW_sm m1 m2).2.2, _, _, rfl, den_mul m1 m2, fun v H' s' f => q v H' s' ?_⟩
    rw [times_eq] at f
    exact f
end
end K42

set_option Elab.async false
set_option linter.all false
set_option maxRecDepth 100000
set_option maxHeartbeats 4000000
namespace K42
open PySem PySem.Spec PyProof.Rows L2
/-! ### lists of fractions -/
abbrev Frs (K : PySem.W.Frag) (H : Hp) : List V → List Rat → Prop := Paired (Fr K H)
theorem Frs.same {K : PySem.W.Frag} {H H' : Hp} {xs : List V} {qs : List Rat} (h : Frs K H xs qs) (s : Same H H') : Frs K H' xs qs := Paired.mapP h fun _ _ z => z.same s
theorem Frs.kp {K : PySem.W.Frag} {w : Addr} {H H' : Hp} {xs : List V} {qs : List Rat} {ys : List V} (h : Frs K H xs qs) (k : Kp w H H') (hw : H w = some (.lst ys)) : Frs K H' xs qs := Paired.mapP h fun _ _ z => z.kp k hw
theorem Paired.snoc {α β : Type} {F : α → β → Prop} : ∀ {l : List α} {m : List β} {a : α} {b : β}, Paired F l m → F a b → Paired F (l ++ [a]) (m ++ [b])
  | _, _, _, _, .nil, h => .cons h .nil
  | _, _, _, _, .cons r t, h => .cons r (Paired.snoc t h)
theorem Paired.left {α β : Type} {F : α → β → Prop} : ∀ {l : List α} {m : List β} {i : Nat} {b : β}, Paired F l m → m[i]? = some b → ∃ a, l[i]? = some a ∧ F a b
  | _, _, _, _, .nil, h => by simp at h
  | _, _, 0, _, .cons r _, h => by simp at h; subst h; exact ⟨_, rfl, r⟩
  | _, _, i + 1, b, .cons _ t, h => by
    obtain ⟨a, h1, h2⟩ := Paired.left (i := i) (b := b) t (by simpa using h)
    exact ⟨a, by simpa using h1, h2⟩
theorem Paired.dropLast {α β : Type} {F : α → β → Prop} : ∀ {l : List α} {m : List β}, Paired F l m → Paired F l.dropLast m.dropLast
  | _, _, .nil => .nil
  | _, _, .cons _ .nil => .nil
  | _, _, .cons r (.cons r2 t) => .cons r (Paired.dropLast (.cons r2 t))
theorem Paired.snoc_inv {α β : Type} {F : α → β → Prop} : ∀ {m : List β} {l : List α} {b : β}, Paired F l (m ++ [b]) → ∃ l' a, l = l' ++ [a] ∧ Paired F l' m ∧ F a b
  | [], _, _, .cons r .nil => ⟨[], _, rfl, .nil, r⟩
  | _ :: _, _, _, .cons r t => by
    obtain ⟨l', a, e, p, f⟩ := Paired.snoc_inv t
    exact ⟨_ :: l', a, by rw [e]; rfl, .cons r p, f⟩
/-! ### fractions as data -/
def dF (q : Rat) : PyData := .tuple [.int q.num, .int (q.den : Int)]
theorem Fr.dp {K : PySem.W.Frag} {H : Hp} {v : V} {q : Rat} (h : Fr K H v q) : Dp K H v (dF q) := by
  obtain ⟨p, rfl, t⟩ := h
  exact .tup t (.cons (.int _) (.cons (.int _) .nil))
theorem Frs.dp {K : PySem.W.Frag} {H : Hp} : ∀ {xs : List V} {qs : List Rat}, Frs K H xs qs → DpAll K H xs (qs.map dF)
  | _, _, .nil => .nil
  | _, _, .cons r t => .cons r.dp (Frs.dp t)
theorem eqv_dF (p q : Rat) : PyData.eqv (dF p) (dF q) = decide (p = q) := by
  unfold dF
  simp only [PyData.eqv, PyData.eqvAll, Bool.and_true]
  by_cases e : p = q
  · subst e
    simp
  · rw [decide_eq_false e]
    by_cases e1 : p.num = q.num
    · by_cases e2 : p.den = q.den
      · exact absurd (Rat.ext e1 e2) e
      · rw [Bool.and_eq_false_iff]
        exact .inr (beq_eq_false_iff_ne.mpr fun z => e2 (Int.ofNat.inj z))
    · rw [Bool.and_eq_false_iff]
      exact .inl (beq_eq_false_iff_ne.mpr e1)
theorem lay_dF (q : Rat) : (dF q).canLay0 = true := by
  unfold dF
  simp only [PyData.canLay0, PyData.canLayAll0, Bool.and_true]
theorem lays_dF : ∀ qs : List Rat, PyData.canLayAll0 (qs.map dF) = true
  | [] => by simp only [List.map_nil, PyData.canLayAll0]
  | q :: r => by
    simp only [List.map_cons, PyData.canLayAll0, lay_dF, lays_dF r, Bool.and_true]
theorem depth_dF (q : Rat) : (dF q).depth = 1 := by
  unfold dF
  simp only [PyData.depth, PyData.depthAll]
  decide
theorem depths_dF : ∀ qs : List Rat, PyData.depthAll (qs.map dF) ≤ 1
  | [] => by simp only [List.map_nil, PyData.depthAll]; decide
  | q :: r => by
    have := depths_dF r
    simp only [List.map_cons, PyData.depthAll, depth_dF]
    omega
theorem shaped_dF (q : Rat) : SeqAt.shaped (dF q) = true := by
  unfold SeqAt.shaped
  rw [lay_dF, depth_dF]
  rfl
theorem shaped_tup (qs : List Rat) : SeqAt.shaped (.tuple (qs.map dF)) = true := by
  unfold SeqAt.shaped
  have := depths_dF qs
  simp only [PyData.canLay0, lays_dF, PyData.depth, Bool.true_and]
  exact decide_eq_true (by omega)
theorem shaped_lst (qs : List Rat) : SeqAt.shaped (.list (qs.map dF)) = true := by
  unfold SeqAt.shaped
  have := depths_dF qs
  simp only [PyData.canLay0, lays_dF, PyData.depth, Bool.true_and]
  exact decide_eq_true (by omega)
theorem shaped_t0 : SeqAt.shaped (.tuple []) = true := shaped_tup []
theorem shaped_l0 : SeqAt.shaped (.list []) = true := shaped_lst []
theorem eqv_t0 (qs : List Rat) : PyData.eqv (.tuple (qs.map dF)) (.tuple []) = qs.isEmpty := by
  cases qs <;> simp [PyData.eqv, PyData.eqvAll]
theorem eqv_l0 (qs : List Rat) : PyData.eqv (.list (qs.map dF)) (.list []) = qs.isEmpty := by
  cases qs <;> simp [PyData.eqv, PyData.eqvAll]
/-! ### rows -/
def Row (K : PySem.W.Frag) (H : Hp) (v : V) (s : Int) (qs : List Rat) : Prop := ∃ p pt xs, v = .ref p ∧ SqT K H p [.int s, .ref pt] ∧ SqT K H pt xs ∧ Frs K H xs qs
theorem Row.same {K : PySem.W.Frag} {H H' : Hp} {v : V} {s : Int} {qs : List Rat} (h : Row K H v s qs) (sm : Same H H') : Row K H' v s qs :=
  let ⟨p, pt, xs, e, a, b, c⟩ := h
  ⟨p, pt, xs, e, Same.tup sm a, Same.tup sm b, c.same sm⟩
def RowOk (s : Int) (qs : List Rat) : Prop := (qs = [] ∧ s = 0) ∨ ((∃ q r, qs = q :: r ∧ q ≠ 0) ∧ ∃ r q, qs = r ++ [q] ∧ q ≠ 0)
/-- a tuple of fractions -/
def Tup (K : PySem.W.Frag) (H : Hp) (v : V) (qs : List Rat) : Prop := ∃ p xs, v = .ref p ∧ SqT K H p xs ∧ Frs K H xs qs
theorem Tup.same {K : PySem.W.Frag} {H H' : Hp} {v : V} {qs : List Rat} (h : Tup K H v qs) (sm : Same H H') : Tup K H' v qs :=
  let ⟨p, xs, e, a, c⟩ := h
  ⟨p, xs, e, Same.tup sm a, c.same sm⟩
def spLaid (K : PySem.W.Frag) : Sp := fun vs H Q _ => ∃ v s qs, vs = [v] ∧ Row K H v s qs ∧ RowOk s qs ∧ qs.length ≤ 5000 ∧ ∀ H', Same H H' → Q (.bl true) H'
def spCheck (K : PySem.W.Frag) : Sp := fun vs H Q _ => ∃ v s qs, vs = [v] ∧ Row K H v s qs ∧ RowOk s qs ∧ qs.length ≤ 5000 ∧ ∀ H', Same H H' → Q .non H'
theorem small5000 {n : Nat} (h : n ≤ 5000) : n < sizeLine := Nat.lt_of_le_of_lt h (by decide)
theorem num_ne {q : Rat} (h : q ≠ 0) : q.num ≠ 0 := fun e => h (Rat.num_eq_zero.mp e)
theorem int_ne {i j : Int} (h : i ≠ j) : (!decide (V.int i = V.int j)) = true := by
  rw [decide_eq_false fun e => h (V.int.inj e)]
  rfl
section
variable {P : Program} {w : World} {K : PySem.W.Frag} {mg : Str → Option Value} {base : Heap}
theorem ok17 (T : Tops K mg) : FnOk P w K mg base CX0 4 (T.fa 17) (T.fd 17) ["value"] (spLaid K) := by
  refine T.d17.F.ok sc17 (fun vs H Q E h => ?_) (fun cdv A outer s H vs Q E hr h => ?_)
  · obtain ⟨v, st, qs, rfl, _⟩ := h
    rfl
  · obtain ⟨v, st, qs, rfl, ⟨p, pt, xs, rfl, hp, hpt, hf⟩, hok, hl, q⟩ := h
    have hlx : xs.length ≤ 5000 := by rw [Paired.length hf]; exact hl
    refine ⟨_, pss_cons (ps_if (PW.pt (pw_or (pt_not (pt_val (pe_callB call_isi (by rfl) T.z_isinstance boot_isinstance (pa_cons (pv 0) (pa_cons (pe_bltn (v := .ty "tuple") (by rfl) T.z_tuple boot_tuple rfl) pa_nil)))))
        (pw_or (pt_cmpR op_ne (pe_callB call_len_seq (by rfl) T.z_len boot_len (pa_cons (pv 0) pa_nil)) pe_int (nomark _))
        (pw_or (pt_not (pt_val (pe_callD T.d2 (ok2 T) (hr.mono (by decide)) (pa_cons (pe_sub0 (pv 0)) pa_nil))))
        (pw_or1 (pt_not (pt_val (pe_callB call_isi (by rfl) T.z_isinstance boot_isinstance (pa_cons (pe_sub1 (pv 0)) (pa_cons (pe_bltn (v := .ty "tuple") (by rfl) T.z_tuple boot_tuple rfl) pa_nil))))))))))
        (pss_one (ps_ret pe_bl)) pss_nil)
      (pss_cons (ps_if (pt_cmpR (op_eqD hr.units) (pe_sub1 (pv 0)) (pe_tup pa_nil) (nomark _)) (pss_one (ps_ret (pe_cmpR op_eq (pe_sub0 (pv 0)) pe_int (nomark _)))) pss_nil)
      (pss_one (ps_ret (pe_and (pe_callB (cr_all rfl) (by rfl) T.z_all boot_all (pa_cons (pe_lc (own := [("each", 1)]) (g := gName 1) (tt := tYes) (by rfl) sc17.nd (pi_tup (pe_sub1 (pv 0))) (blkOk_by (N := ["value", "each"]) (sc := defScope s17) (by decide +kernel))
          (fun _ _ _ _ _ => pg_name (i := 1) sc17.nd rfl (Or.inl rfl)) (fun _ _ _ _ _ => pts_nil) (fun _ _ _ _ _ => pe_callD T.d8 (ok8 T) hr (pa_cons (pv 1) pa_nil))) pa_nil))
        (pe_and (pe_cmpR op_ne (pe_sub0 (pe_sub0 (pe_sub1 (pv 0)))) pe_int (nomark _))
        (pe_one (pe_cmpR op_ne (pe_sub0 (pe_ix ix_tup (pe_sub1 (pv 0)) (pe_un un_neg pe_int) (fun _ _ => rfl))) pe_int (nomark _)))))))), ?_⟩
    refine ⟨_, rfl, _, _, _, _, true, rfl, .ty "tuple", tyT hp, kit_ty (by decide +kernel), true, rfl, ?_⟩
    refine iteF ⟨_, rfl, p, _, rfl, .inr hp, rfl, _, rfl, ?_⟩
    refine iteF ⟨_, rfl, p, _, 0, _, rfl, rfl, hp, rfl, st, rfl, true, rfl, ?_⟩
    refine iteF ⟨_, rfl, p, _, 1, _, rfl, rfl, hp, rfl, _, _, _, _, true, rfl, .ty "tuple", tyT hpt, kit_ty (by decide +kernel), true, rfl, ?_⟩
    refine iteF ?_
    refine ⟨_, rfl, p, _, 1, _, rfl, rfl, hp, rfl, (by show 0 ≤ sizeLine; decide), fun t nt => ?_⟩
    have s1 : Same H (upd H t (.tup [])) := same_upd nt
    refine ⟨.tuple (qs.map dF), .tuple [], .tup (Same.tup s1 hpt) (hf.same s1).dp, .tup (SqT.of upd_same) .nil, shaped_tup qs, shaped_t0, _, rfl, ?_⟩
    rw [eqv_t0]
    rcases hok with ⟨rfl, rfl⟩ | ⟨⟨q0, r0, e0, n0⟩, ⟨r1, q1, e1, n1⟩⟩
    · refine iteT ⟨_, rfl, p, _, 0, _, rfl, rfl, Same.tup s1 hp, rfl, rfl, ?_⟩
      exact q _ s1
    · have hne : qs.isEmpty = false := by rw [e0]; rfl
      rw [hne]
      refine iteF ?_
      refine ⟨_, rfl, p, _, 1, _, rfl, rfl, Same.tup s1 hp, rfl, pt, rfl, ⟨_, Same.tup s1 hpt⟩, fun D nD => ?_⟩
      have s2 : Same H (upd (upd H t (.tup [])) D (.lst [])) := s1.trans (same_upd nD)
      refine lc_itY (walk_tup (K := K) (a := pt) (xs := xs)) (fun i H1 => Same (upd H t (.tup [])) H1 ∧ H1 D = some (.lst (List.replicate i (.bl true)))) ⟨same_upd nD, upd_same⟩ (fun i H1 _ h => Same.tup (s1.trans h.1) hpt) ?_ ?_
      · rintro i x H1 H2 hlt ⟨s3, hD⟩ ⟨rfl, hx⟩
        obtain ⟨b, hb, fb⟩ := paired_get hf hx
        refine ⟨rfl, _, rfl, x, b, rfl, fb.same (s1.trans s3), fun H3 s4 => ⟨_, s4 _ _ hD, small5000 (by rw [List.length_replicate]; omega), fun c o e => ?_, ?_⟩⟩
        · rw [upd_ne (ne_of_none e nD)]
          exact s4 _ _ (s3 _ _ e)
        · rw [upd_same, ← List.replicate_succ']
      · rintro H1 ⟨s3, hD⟩
        have s4 : Same H H1 := s1.trans s3
        refine ⟨D, List.replicate xs.length true, rfl, SqL.of (by rw [hD, List.map_replicate]), _, rfl, ?_⟩
        have ea : (List.replicate xs.length true).all id = true := by rw [List.all_eq_true]; intro z hz; exact (List.mem_replicate.mp hz).2
        rw [ea]
        refine iteT ?_
        have hf4 := hf.same s4
        have e00 : qs[0]? = some q0 := by rw [e0]; rfl
        obtain ⟨x0, hx0, ⟨a0, rfl, t0⟩⟩ := Paired.left hf4 e00
        rw [e1] at hf4
        obtain ⟨xl, x1, ex, _, ⟨a1, rfl, t1⟩⟩ := Paired.snoc_inv hf4
        refine ⟨_, rfl, p, _, 1, _, rfl, rfl, Same.tup s4 hp, rfl, pt, _, 0, _, rfl, rfl, Same.tup s4 hpt, atI_nat hx0, a0, _, 0, _, rfl, rfl, t0, rfl, rfl, _, rfl, ?_⟩
        rw [int_ne (num_ne n0)]
        refine iteT ⟨_, rfl, p, _, 1, _, rfl, rfl, Same.tup s4 hp, rfl, 1, rfl, pt, _, -1, _, rfl, rfl, Same.tup s4 hpt, (by rw [ex]; exact atI_last _ _), a1, _, 0, _, rfl, rfl, t1, rfl, rfl, ?_⟩
        have := int_ne (num_ne n1)
        show Q (.bl _) H1
        rw [this]
        exact q _ s4
theorem ok18 (T : Tops K mg) : FnOk P w K mg base CX0 5 (T.fa 18) (T.fd 18) ["value"] (spCheck K) := by
  refine T.d18.F.ok sc18 (fun vs H Q E h => ?_) (fun cdv A outer s H vs Q E hr h => ?_)
  · obtain ⟨v, st, qs, rfl, _⟩ := h
    rfl
  · obtain ⟨v, st, qs, rfl, hv, hok, hl, q⟩ := h
    refine ⟨_, pss_one (ps_if (pt_not (pt_val (pe_callD T.d17 (ok17 T) hr (pa_cons (pv 0) pa_nil)))) (pss_one ps_never) pss_nil), ?_⟩
    refine ⟨_, rfl, v, st, qs, rfl, hv, hok, hl, fun H1 s1 => ⟨true, rfl, ?_⟩⟩
    refine iteF ?_
    exact q _ s1
end
end K42

set_option Elab.async false
set_option linter.all false
set_option maxRecDepth 100000
set_option maxHeartbeats 4000000
namespace K42
open PySem PySem.Spec PyProof.Rows L2
/-! ### the row's sums -/
def psum (s : Int) (qs : List Rat) (j : Nat) : Rat := tot (qs.zipIdx.map fun p => p.1 * (((-s - (p.2 : Int)) ^ j : Int) : Rat))
def told (s : Int) (qs : List Rat) (j : Nat) : List Rat := (row j).zipIdx.map fun p => psum s qs (j - p.2) * (p.1 : Rat)
theorem comb_row : ∀ j : Nat, j ≤ 8 → ∀ p : Nat, p ≤ j → (row j)[p]? = some (PySem.W.mcComb (j : Int) (p : Int)) := by decide +kernel
theorem pow_le {b : Int} (h : b.natAbs ≤ 4096) {i : Nat} (hi : i ≤ 8) : (b ^ i).natAbs ≤ 2 ^ 96 := by
  rw [Int.natAbs_pow]
  have h1 : b.natAbs ^ i ≤ 4096 ^ i := Nat.pow_le_pow_left h i
  have h2 : 4096 ^ i ≤ 4096 ^ 8 := Nat.pow_le_pow_right (by decide) hi
  have h3 : 4096 ^ 8 = 2 ^ 96 := by decide
  omega
theorem pow_lt {b : Int} (h : b.natAbs ≤ 4096) {i : Nat} (hi : i ≤ 8) : (b ^ i).natAbs < 2 ^ 97 := Nat.lt_of_le_of_lt (pow_le h hi) (by decide)
theorem psum_term {s : Int} {qs : List Rat} {j i : Nat} {q : Rat} (h : qs[i]? = some q) : (qs.zipIdx.map fun p : Rat × Nat => p.1 * (((-s - (p.2 : Int)) ^ j : Int) : Rat))[i]? = some (q * (((-s - (i : Int)) ^ j : Int) : Rat)) := by
  rw [List.getElem?_map, List.getElem?_zipIdx, h]
  simp
theorem psum_terms {s : Int} {qs : List Rat} {j : Nat} {B : Nat} (hs : s.natAbs ≤ 1000) (hl : qs.length ≤ 3000) (hj : j ≤ 8) (hb : ∀ q ∈ qs, Bd B q) : ∀ x ∈ (qs.zipIdx.map fun p : Rat × Nat => p.1 * (((-s - (p.2 : Int)) ^ j : Int) : Rat)), Bd (B * 2 ^ 96) x := by
  intro x hx
  obtain ⟨p, hp, rfl⟩ := List.mem_map.mp hx
  have h1 := List.mem_zipIdx' hp
  have h2 : p.2 < qs.length := h1.1
  refine (hb p.1 (by rw [h1.2]; exact List.getElem_mem _)).mulInt _ (pow_le (by omega) hj)
theorem psum_part {s : Int} {qs : List Rat} {j : Nat} (hs : s.natAbs ≤ 1000) (hl : qs.length ≤ 3000) (hj : j ≤ 8) (hb : ∀ q ∈ qs, Bd (2 ^ 40) q) (i : Nat) : Bd (2 ^ 148) (tot ((qs.zipIdx.map fun p : Rat × Nat => p.1 * (((-s - (p.2 : Int)) ^ j : Int) : Rat)).take i)) := by
  refine (tot_bd fun x hx => psum_terms hs hl hj hb x (List.mem_of_mem_take hx)).mono ?_
  have h1 : ((qs.zipIdx.map fun p : Rat × Nat => p.1 * (((-s - (p.2 : Int)) ^ j : Int) : Rat)).take i).length ≤ 3000 := by
    rw [List.length_take, List.length_map, List.length_zipIdx]
    omega
  have h2 : ((qs.zipIdx.map fun p : Rat × Nat => p.1 * (((-s - (p.2 : Int)) ^ j : Int) : Rat)).take i).length * (2 ^ 40 * 2 ^ 96) ≤ 3000 * (2 ^ 40 * 2 ^ 96) := Nat.mul_le_mul_right _ h1
  have h3 : 3000 * (2 ^ 40 * 2 ^ 96) ≤ 2 ^ 148 := by decide
  exact Nat.le_trans h2 h3
theorem psum_bd {s : Int} {qs : List Rat} {j : Nat} (hs : s.natAbs ≤ 1000) (hl : qs.length ≤ 3000) (hj : j ≤ 8) (hb : ∀ q ∈ qs, Bd (2 ^ 40) q) : Bd (2 ^ 148) (psum s qs j) := by
  have := psum_part hs hl hj hb qs.length
  rw [List.take_of_length_le (by simp)] at this
  exact this
theorem told_bd {s : Int} {qs : List Rat} {j : Nat} (hs : s.natAbs ≤ 1000) (hl : qs.length ≤ 3000) (hj : j ≤ 8) (hb : ∀ q ∈ qs, Bd (2 ^ 40) q) : ∀ x ∈ told s qs j, Bd (2 ^ 155) x := by
  intro x hx
  obtain ⟨p, hp, rfl⟩ := List.mem_map.mp hx
  have h1 := List.mem_zipIdx' hp
  have h2 := row_le j hj p.1 (by rw [h1.2]; exact List.getElem_mem _)
  exact ((psum_bd hs hl (by omega) hb).mulInt p.1 h2).mono (by decide)
theorem told_len (s : Int) (qs : List Rat) {j : Nat} (hj : j ≤ 8) : (told s qs j).length = j + 1 := by
  unfold told
  rw [List.length_map, List.length_zipIdx, row_len j hj]
theorem told_at {s : Int} {qs : List Rat} {j : Nat} (hj : j ≤ 8) {p : Nat} (hp : p ≤ j) : (told s qs j)[p]? = some (((PySem.W.mcComb (j : Int) (p : Int) : Int) : Rat) * psum s qs (j - p)) := by
  unfold told
  rw [List.getElem?_map, List.getElem?_zipIdx, comb_row j hj p hp]
  simp [Rat.mul_comm]
theorem trim_sub : ∀ (l : List Rat), ∀ x ∈ trim l, x ∈ l := by
  intro l x hx
  unfold trim at hx
  rw [List.mem_reverse] at hx
  exact List.mem_reverse.mp ((List.dropWhile_sublist _).subset hx)
theorem trim_len (l : List Rat) : (trim l).length ≤ l.length := by
  unfold trim
  rw [List.length_reverse]
  exact Nat.le_trans (List.dropWhile_sublist _).length_le (Nat.le_of_eq List.length_reverse)
theorem Kp.upd {w : Addr} {H : Hp} {o : HO} : Kp w H (L2.upd H w o) := fun b x e n => by
  rw [upd_ne n]
  exact e
theorem Same.into {H H1 : Hp} {w : Addr} {o : HO} (s : Same H H1) (h : H w = none) : Same H (L2.upd H1 w o) := fun b x e => by
  rw [upd_ne (ne_of_none e h)]
  exact s _ _ e
theorem Frs.into {K : PySem.W.Frag} {H : Hp} {w : Addr} {ys zs : List V} {xs : List V} {qs : List Rat} (h : Frs K H xs qs) (hw : H w = some (.lst ys)) : Frs K (L2.upd H w (.lst zs)) xs qs := h.kp Kp.upd hw
theorem Fr.into {K : PySem.W.Frag} {H : Hp} {w : Addr} {ys zs : List V} {v : V} {q : Rat} (h : Fr K H v q) (hw : H w = some (.lst ys)) : Fr K (L2.upd H w (.lst zs)) v q := h.kp Kp.upd hw
/-! ### the promises -/
def spPower (K : PySem.W.Frag) : Sp := fun vs H Q _ => ∃ (b : Int) (j : Nat), vs = [.int b, .int (j : Int)] ∧ (b.natAbs ≤ 4096 ∧ j ≤ 8) ∧ ∀ v H', Same H H' → Fr K H' v ((b ^ j : Int) : Rat) → Q v H'
/-- a row and an order as they are asked -/
def RowIn (K : PySem.W.Frag) (H : Hp) (v : V) (s : Int) (qs : List Rat) (j : Nat) : Prop := Row K H v s qs ∧ s.natAbs ≤ 1000 ∧ qs.length ≤ 3000 ∧ j ≤ 8 ∧ ∀ q ∈ qs, Bd (2 ^ 40) q
theorem RowIn.same {K : PySem.W.Frag} {H H' : Hp} {v : V} {s : Int} {qs : List Rat} {j : Nat} (h : RowIn K H v s qs j) (sm : Same H H') : RowIn K H' v s qs j := ⟨h.1.same sm, h.2⟩
def spSum (K : PySem.W.Frag) : Sp := fun vs H Q _ => ∃ v s qs j, vs = [v, .int (j : Nat)] ∧ RowIn K H v s qs j ∧ ∀ u H', Same H H' → Fr K H' u (psum s qs j) → Q u H'
def spLed (K : PySem.W.Frag) : Sp := fun vs H Q _ => ∃ v s qs j, vs = [v, .int (j : Nat)] ∧ RowIn K H v s qs j ∧ ∀ u H', Same H H' → Tup K H' u (trim (told s qs j)) → Q u H'
def spOn (K : PySem.W.Frag) : Sp := fun vs H Q _ => ∃ v s qs j, vs = [v, .int (j : Nat)] ∧ RowIn K H v s qs j ∧ RowOk s qs ∧ ∀ u H', Same H H' → Tup K H' u (trim (told s qs j)) → Q u H'
def spOrder : Sp := fun vs H Q _ => ∃ j : Nat, vs = [.int (j : Int)] ∧ j ≤ 8 ∧ Q .non H
section
variable {P : Program} {w : World} {K : PySem.W.Frag} {mg : Str → Option Value} {base : Heap}
theorem ok20 (T : Tops K mg) : FnOk P w K mg base CX0 1 (T.fa 20) (T.fd 20) ["place", "order"] (spPower K) := by
  refine T.d20.F.ok sc20 (fun vs H Q E h => ?_) (fun cdv A outer s H vs Q E hr h => ?_)
  · obtain ⟨b, j, rfl, _⟩ := h
    rfl
  · obtain ⟨b, j, rfl, ⟨hb, hj⟩, q⟩ := h
    refine ⟨_, pss_cons (ps_set (i := 2) sc20.nd rfl (.inl rfl) pe_int)
      (pss_cons (ps_for PassesOwn.never rfl (pi_range1 (by rfl) T.z_range (pa_cons (pv 1) pa_nil)) (pg_name (i := 3) sc20.nd rfl (.inl rfl))
        (pss_one (ps_set (i := 2) sc20.nd rfl (.inl rfl) (pe_op op_mulW (pv 2) (pv 0)))))
      (pss_one (ps_ret (pe_tup (pa_cons (pv 2) (pa_cons pe_int pa_nil)))))), ?_⟩
    refine ⟨_, rfl, (j : Int), rfl, by omega, by omega, ?_⟩
    rw [Int.toNat_natCast]
    refine for_range (lo := 0) (n := j) (fun i σ H1 => H1 = H ∧ ∃ c, σ = [some (.int b), some (.int (j : Int)), some (.int (b ^ i)), c]) ⟨rfl, none, by rw [Int.pow_zero]; rfl⟩ ?_ ?_
    · rintro i σ H1 hi ⟨rfl, c, rfl⟩
      refine ⟨_, rfl, _, rfl, _, _, rfl, rfl, wide_mul (pow_lt hb (by omega)) (Nat.lt_of_le_of_lt hb (show 4096 < 2 ^ 13 by decide)) (by decide) (by decide) (by decide), rfl, some (.int (0 + (i : Int))), ?_⟩
      rw [Int.pow_succ]
      rfl
    · rintro σ H1 ⟨rfl, c, rfl⟩
      exact ⟨_, rfl, (by show 2 ≤ sizeLine; decide), fun p np => q _ _ (same_upd np) Fr.int⟩
theorem ok21 (T : Tops K mg) : FnOk P w K mg base CX0 4 (T.fa 21) (T.fd 21) ["row", "order"] (spSum K) := by
  refine T.d21.F.ok sc21 (fun vs H Q E h => ?_) (fun cdv A outer s H vs Q E hr h => ?_)
  · obtain ⟨v, st, qs, j, rfl, _⟩ := h
    rfl
  · obtain ⟨v, st, qs, j, rfl, ⟨⟨p, pt, xs, rfl, hp, hpt, hf⟩, hs, hl, hj, hb⟩, q⟩ := h
    refine ⟨_, pss_cons (ps_set (i := 2) sc21.nd rfl (.inl rfl) (pe_glob (v := .ref T.za) (by rfl) T.zero rfl))
      (pss_cons (ps_for PassesOwn.never rfl (pi_enumT (by rfl) T.z_enumerate (pa_cons (pe_sub1 (pv 0)) pa_nil)) (pg_tup rfl (pgs_cons (pg_name (i := 3) sc21.nd rfl (.inl rfl)) (pgs_cons (pg_name (i := 4) sc21.nd rfl (.inl rfl)) pgs_nil)))
        (pss_one (ps_set (i := 2) sc21.nd rfl (.inl rfl) (pe_callD T.d10 (ok10 T) hr (pa_cons (pv 2) (pa_cons (pe_callD T.d11 (ok11 T) hr (pa_cons (pv 4)
          (pa_cons (pe_callD T.d20 (ok20 T) (hr.mono (by decide)) (pa_cons (pe_op op_sub (pe_un un_neg (pe_sub0 (pv 0))) (pv 3)) (pa_cons (pv 1) pa_nil))) pa_nil))) pa_nil))))))
      (pss_one (ps_ret (pv 2)))), ?_⟩
    refine ⟨_, rfl, p, _, 1, _, rfl, rfl, hp, rfl, pt, xs, rfl, hpt, ?_⟩
    refine for_it walk_enumT (fun i σ H1 => Same H H1 ∧ ∃ v c d, σ = [some (.ref p), some (.int (j : Int)), some v, c, d] ∧ Fr K H1 v (tot ((qs.zipIdx.map fun z : Rat × Nat => z.1 * (((-st - (z.2 : Int)) ^ j : Int) : Rat)).take i)))
      ⟨fun _ _ e => e, .ref T.za, none, none, rfl, ⟨T.za, rfl, T.zeroAt H⟩⟩ (fun i σ H1 _ h => Same.tup h.1 hpt) ?_ ?_
    · rintro i x σ H1 H2 hi ⟨s1, v, c, d, rfl, fv⟩ ⟨t, x1, x2, rfl, nt, rfl, e1, e2⟩
      obtain rfl : V.int (i : Nat) = x1 := Option.some.inj e1
      obtain ⟨b, hbq, fb⟩ := paired_get hf e2
      have st1 : Same H1 (upd H1 t (.tup [.int (i : Nat), x2])) := same_upd nt
      have hil : i < qs.length := (List.getElem?_eq_some_iff.mp hbq).1
      refine ⟨t, [.int (i : Nat), x2], rfl, SqT.of upd_same, rfl, _, [x2], rfl, x2, [], rfl, rfl, ?_⟩
      refine ⟨_, rfl, _, rfl, _, rfl, p, _, 0, _, rfl, rfl, Same.tup (s1.trans st1) hp, rfl, st, rfl, _, rfl, _, _, rfl, rfl, _, rfl, -st - (i : Int), j, rfl, ⟨by omega, hj⟩, fun v2 H3 s3 f3 => ?_⟩
      have hbb : Bd (2 ^ 40) b := hb b (List.mem_of_getElem? hbq)
      have hpb : (((-st - (i : Int)) ^ j : Int)).natAbs ≤ 2 ^ 96 := pow_le (by omega) hj
      refine ⟨_, _, b, _, rfl, fb.same ((s1.trans st1).trans s3), f3, hbb.sm (by decide), Sm.int (Nat.lt_of_le_of_lt hpb (by decide)), fun v4 H4 s4 f4 => ?_⟩
      have hm : Bd (2 ^ 40 * 2 ^ 96) (b * (((-st - (i : Int)) ^ j : Int) : Rat)) := hbb.mulInt _ hpb
      refine ⟨_, _, _, _, rfl, fv.same ((st1.trans s3).trans s4), f4, (psum_part hs hl hj hb i).sm (by decide), hm.sm (by decide), fun v5 H5 s5 f5 => ?_⟩
      refine ⟨(((s1.trans st1).trans s3).trans s4).trans s5, v5, _, _, rfl, ?_⟩
      rw [tot_take (psum_term hbq)]
      exact f5
    · rintro σ H1 ⟨s1, v, c, d, rfl, fv⟩
      refine ⟨_, rfl, q _ _ s1 ?_⟩
      rw [List.take_of_length_le (by simp [Paired.length hf])] at fv
      exact fv
theorem ok22 (T : Tops K mg) : FnOk P w K mg base CX0 5 (T.fa 22) (T.fd 22) ["row", "order"] (spLed K) := by
  refine T.d22.F.ok sc22 (fun vs H Q E h => ?_) (fun cdv A outer s H vs Q E hr h => ?_)
  · obtain ⟨v, st, qs, j, rfl, _⟩ := h
    rfl
  · obtain ⟨v, st, qs, j, rfl, hR, q⟩ := h
    obtain ⟨_, hs, hl, hj, hb⟩ := id hR
    refine ⟨_, pss_cons (ps_set (i := 2) sc22.nd rfl (.inl rfl) (pe_lst pa_nil))
      (pss_cons (ps_for PassesOwn.never rfl (pi_range1 (by rfl) T.z_range (pa_cons (pe_op op_add (pv 1) pe_int) pa_nil)) (pg_name (i := 3) sc22.nd rfl (.inl rfl))
        (pss_one (ps_expr (pe_bm PySem.F.plainAttrs_list PySem.F.slot_list_append PySem.F.type_list_append mt_append (pv 2) (pa_cons (pe_callD T.d11 (ok11 T) (hr.mono (by decide))
          (pa_cons (pe_tup (pa_cons (pe_callBfun cr_comb (by rfl) T.comb (pa_cons (pv 1) (pa_cons (pv 3) pa_nil))) (pa_cons pe_int pa_nil))) (pa_cons (pe_callD T.d21 (ok21 T) hr (pa_cons (pv 0) (pa_cons (pe_op op_sub (pv 1) (pv 3)) pa_nil))) pa_nil))) pa_nil)))))
      (pss_cons (ps_while PassesOwn.never (PW.pt (pw_and (pt_cmpR (op_neD hr.units) (pv 2) (pe_lst pa_nil) (nomark _)) (pw_and1 (pt_cmpR (op_eqD hr.units) (pe_ix ix_list (pv 2) (pe_un un_neg pe_int) (fun _ _ => rfl)) (pe_glob (v := .ref T.za) (by rfl) T.zero rfl) (nomark _)))))
        (pss_one (ps_expr (pe_bm0 PySem.F.plainAttrs_list PySem.F.slot_list_pop PySem.F.type_list_pop mt_pop (pv 2)))))
      (pss_one (ps_ret (pe_callTy call_tuple_of (by rfl) T.z_tuple boot_tuple (pa_cons (pv 2) pa_nil)))))), ?_⟩
    refine ⟨Nat.zero_le _, fun o no => ?_⟩
    have s1 : Same H (upd H o (.lst [])) := same_upd no
    refine ⟨_, rfl, _, _, rfl, rfl, ((j : Int) + 1), rfl, by omega, by omega, ?_⟩
    rw [show ((j : Int) + 1).toNat = j + 1 by omega]
    refine for_range (lo := 0) (n := j + 1) (fun i σ H1 => Same H H1 ∧ ∃ c xs, σ = [some v, some (.int (j : Int)), some (.ref o), c] ∧ H1 o = some (.lst xs) ∧ Frs K H1 xs ((told st qs j).take i)) ⟨s1, none, [], rfl, upd_same, .nil⟩ ?_ ?_
    · rintro i σ H1 hi ⟨s2, c, xs, rfl, ho, hf⟩
      have e0 : (0 : Int) + (i : Int) = (i : Int) := by omega
      rw [e0]
      have hxl : xs.length ≤ 9 := by
        rw [Paired.length hf, List.length_take, told_len st qs hj]
        omega
      refine ⟨_, rfl, .inl ⟨rfl, _, SqL.of ho⟩, _, rfl, _, rfl, (j : Int), (i : Int), rfl, by omega, (by show 2 ≤ sizeLine; decide), fun t nt => ?_⟩
      have s3 := same_upd (o := .tup [.int (PySem.W.mcComb (j : Int) (i : Int)), .int 1]) nt
      refine ⟨_, rfl, _, rfl, _, rfl, _, _, rfl, rfl, v, st, qs, j - i, ?_, ⟨hR.1.same (s2.trans s3), hs, hl, by omega, hb⟩, fun v4 H4 s4 f4 => ?_⟩
      · show [v, V.int ((j : Int) - (i : Int))] = [v, V.int ((j - i : Nat) : Int)]
        rw [show (j : Int) - (i : Int) = ((j - i : Nat) : Int) by omega]
      have hc : (PySem.W.mcComb (j : Int) (i : Int)).natAbs ≤ 128 := row_le j hj _ (List.mem_of_getElem? (comb_row j hj i (by omega)))
      refine ⟨_, _, _, _, rfl, Fr.int.same s4, f4, Sm.int (Nat.lt_of_le_of_lt hc (by decide)), (psum_bd hs hl (by omega) hb).sm (by decide), fun v5 H5 s5 f5 => ?_⟩
      have sF : Same H1 H5 := (s3.trans s4).trans s5
      have ho5 : H5 o = some (.lst xs) := sF _ _ ho
      refine ⟨o, xs, v5, rfl, rfl, ho5, small1000 (by omega), Same.into (s2.trans sF) no, some (.int (i : Int)), xs ++ [v5], rfl, upd_same, ?_⟩
      rw [List.take_add_one, told_at hj (show i ≤ j by omega)]
      exact Paired.snoc ((hf.same sF).into ho5) (f5.into ho5)
    · rintro σ H1 ⟨s2, c, xs, rfl, ho, hf⟩
      rw [List.take_of_length_le (by rw [told_len st qs hj]; exact Nat.le_refl _)] at hf
      refine ⟨fun m σ H2 => Same H H2 ∧ ∃ xs l, σ = [some v, some (.int (j : Int)), some (.ref o), c] ∧ H2 o = some (.lst xs) ∧ Frs K H2 xs l ∧ trim l = trim (told st qs j) ∧ m = l.length ∧ l.length ≤ 9, ⟨_, s2, xs, _, rfl, ho, hf, rfl, rfl, by rw [told_len st qs hj]; omega⟩, ?_⟩
      rintro m σ H2 ⟨s3, xs, l, rfl, ho, hf, ht, rfl, hl9⟩
      refine ⟨_, rfl, Nat.zero_le _, fun b nb => ?_⟩
      have s4 := same_upd (o := .lst []) nb
      refine ⟨.list (l.map dF), .list [], .lst (s4.seq (SqL.of ho)) (hf.same s4).dp, .lst (SqL.of upd_same) .nil, shaped_lst l, shaped_l0, _, rfl, ?_⟩
      rw [eqv_l0]
      by_cases hne : l = []
      · subst hne
        refine iteF ⟨_, rfl, o, xs, rfl, .inl ⟨s4.seq (SqL.of ho), fun t nt => ?_⟩⟩
        refine q _ _ ((s3.trans s4).trans (same_upd nt)) ⟨t, xs, rfl, SqT.of upd_same, ?_⟩
        rw [← ht]
        exact (hf.same s4).same (same_upd nt)
      · obtain ⟨l', z, rfl⟩ : ∃ d x, l = d ++ [x] := ⟨l.dropLast, l.getLast hne, (List.dropLast_concat_getLast hne).symm⟩
        have hie : (l' ++ [z]).isEmpty = false := by cases l' <;> rfl
        rw [hie]
        obtain ⟨xl, x1, ex, hfl, fz⟩ := Paired.snoc_inv hf
        have ho4 : (upd H2 b (.lst [])) o = some (.lst xs) := s4 _ _ ho
        refine iteT ⟨_, rfl, 1, rfl, o, xs, -1, x1, rfl, rfl, SqL.of ho4, (by rw [ex]; exact atI_last _ _), ?_⟩
        refine ⟨dF z, dF 0, (fz.same s4).dp, Fr.dp ⟨T.za, rfl, T.zeroAt _⟩, shaped_dF z, shaped_dF 0, _, rfl, ?_⟩
        rw [eqv_dF]
        by_cases hz : z = 0
        · rw [decide_eq_true hz]
          subst hz
          refine iteT ⟨fun σ' H' => Same H H' ∧ ∃ xs l, σ' = [some v, some (.int (j : Int)), some (.ref o), c] ∧ H' o = some (.lst xs) ∧ Frs K H' xs l ∧ trim l = trim (told st qs j) ∧ l.length < (l' ++ [(0 : Rat)]).length ∧ l.length ≤ 9, ?_, ?_⟩
          · rintro σ' H' ⟨a1, xs', l2, a2, a3, a4, a5, a6, a7⟩
            exact ⟨_, a6, a1, xs', l2, a2, a3, a4, a5, rfl, a7⟩
          · have hlen : (l' ++ [(0 : Rat)]).length = l'.length + 1 := by simp
            refine ⟨_, rfl, .inl ⟨rfl, _, SqL.of ho4⟩, o, xs, x1, rfl, rfl, ho4, ?_, Same.into (s3.trans s4) no, xl, l', rfl, ?_, ?_, ?_, ?_, ?_⟩
            · rw [ex]
              simp
            · rw [upd_same, ex]
              simp
            · exact Frs.into (Frs.same hfl s4) ho4
            · rw [← ht, trim_zero]
            · omega
            · omega
        · rw [decide_eq_false hz]
          refine iteF ⟨_, rfl, o, xs, rfl, .inl ⟨SqL.of ho4, fun t nt => ?_⟩⟩
          refine q _ _ ((s3.trans s4).trans (same_upd nt)) ⟨t, xs, rfl, SqT.of upd_same, ?_⟩
          rw [← ht, trim_ne l' hz]
          exact (hf.same s4).same (same_upd nt)
theorem ok25 (T : Tops K mg) : FnOk P w K mg base CX0 3 (T.fa 25) (T.fd 25) ["value"] spOrder := by
  refine T.d25.F.ok sc25 (fun vs H Q E h => ?_) (fun cdv A outer s H vs Q E hr h => ?_)
  · obtain ⟨j, rfl, _⟩ := h
    rfl
  · obtain ⟨j, rfl, hj, q⟩ := h
    obtain ⟨t, ht⟩ := T.mo
    refine ⟨_, pss_one (ps_if (pt_not (pt_val (pe_callD T.d3 (ok3 T) hr (pa_cons (pv 0) (pa_cons pe_int (pa_cons (pe_glob (v := .int 8) (by rfl) ht ⟨t, rfl⟩) pa_nil)))))) (pss_one ps_never) pss_nil), ?_⟩
    refine ⟨_, rfl, (j : Int), 0, 8, rfl, by omega, by omega, true, rfl, ?_⟩
    refine iteF ?_
    exact q
theorem ok26 (T : Tops K mg) : FnOk P w K mg base CX0 6 (T.fa 26) (T.fd 26) ["row", "order"] (spOn K) := by
  refine T.d26.F.ok sc26 (fun vs H Q E h => ?_) (fun cdv A outer s H vs Q E hr h => ?_)
  · obtain ⟨v, st, qs, j, rfl, _⟩ := h
    rfl
  · obtain ⟨v, st, qs, j, rfl, hR, hO, q⟩ := h
    refine ⟨_, pss_cons (ps_expr (pe_callD T.d18 (ok18 T) hr (pa_cons (pv 0) pa_nil)))
      (pss_cons (ps_expr (pe_callD T.d25 (ok25 T) (hr.mono (by decide)) (pa_cons (pv 1) pa_nil)))
      (pss_one (ps_ret (pe_callD T.d22 (ok22 T) hr (pa_cons (pv 0) (pa_cons (pv 1) pa_nil)))))), ?_⟩
    refine ⟨_, rfl, v, st, qs, rfl, hR.1, hO, by have := hR.2.2.1; omega, fun H1 s1 => ?_⟩
    refine ⟨_, rfl, j, rfl, hR.2.2.2.1, ?_⟩
    exact ⟨_, rfl, _, rfl, v, st, qs, j, rfl, hR.same s1, fun u H' s2 ht => q u H' (s1.trans s2) ht⟩
end
end K42

set_option Elab.async false
set_option linter.all false
set_option maxRecDepth 100000
set_option maxHeartbeats 4000000
namespace K42
open PySem PySem.Spec PyProof.Rows L2
/-! ### the law's own fractions -/
theorem abs_eq (i : Int) : (if i < 0 then -i else i) = (i.natAbs : Int) := by
  by_cases h : i < 0
  · rw [if_pos h]; omega
  · rw [if_neg h]; omega
theorem gcd_step (a b : Nat) : Nat.gcd b (a % b) = Nat.gcd a b := by
  rw [Nat.gcd_comm b, ← Nat.gcd_rec, Nat.gcd_comm]
theorem dec_int (i j : Int) : decide (V.int i = V.int j) = decide (i = j) := by
  by_cases h : i = j
  · subst h
    simp
  · rw [decide_eq_false h, decide_eq_false fun e => h (V.int.inj e)]
def spGcd : Sp := fun vs H Q _ => ∃ n m : Int, vs = [.int n, .int m] ∧ Q (.int ((Nat.gcd n.natAbs m.natAbs : Nat) : Int)) H
def spPowI : Sp := fun vs H Q _ => ∃ (b : Int) (j : Nat), vs = [.int b, .int (j : Int)] ∧ (b.natAbs ≤ 4096 ∧ j ≤ 8) ∧ Q (.int (b ^ j)) H
def spTotal (K : PySem.W.Frag) : Sp := fun vs H Q _ => ∃ a xs l B, vs = [.ref a] ∧ SqL K H a xs ∧ Frs K H xs l ∧ (∀ x ∈ l, Bd B x) ∧ (l.length + 1) * B < 2 ^ 250 ∧ ∀ v H', Same H H' → Fr K H' v (tot l) → Q v H'
section
variable {P : Program} {w : World} {K : PySem.W.Frag} {mg : Str → Option Value} {base : Heap}
theorem ok32 (T : Tops K mg) : FnOk P w K mg base CX0 1 (T.fa 32) (T.fd 32) ["_law_one", "_law_two"] spGcd := by
  refine T.d32.F.ok sc32 (fun vs H Q E h => ?_) (fun cdv A outer s H vs Q E hr h => ?_)
  · obtain ⟨n, m, rfl, _⟩ := h
    rfl
  · obtain ⟨n, m, rfl, q⟩ := h
    refine ⟨_, pss_cons (ps_par (i := 0) (j := 1) (by rfl) sc32.nd rfl rfl (by decide) rfl rfl (pa_cons (pe_callB call_abs (by rfl) T.z_abs boot_abs (pa_cons (pv 0) pa_nil)) (pa_cons (pe_callB call_abs (by rfl) T.z_abs boot_abs (pa_cons (pv 1) pa_nil)) pa_nil)) (by rfl))
      (pss_cons (ps_while PassesOwn.never (pt_cmpR op_gt (pv 1) pe_int (nomark _))
        (pss_one (ps_par (i := 0) (j := 1) (by rfl) sc32.nd rfl rfl (by decide) rfl rfl (pa_cons (pv 1) (pa_cons (pe_op op_mod (pe_callTy call_int1 (by rfl) T.z_int boot_int (pa_cons (pv 0) pa_nil)) (pv 1)) pa_nil)) (by rfl))))
      (pss_one (ps_ret (pv 0)))), ?_⟩
    refine ⟨_, rfl, n, rfl, _, rfl, m, rfl, _, _, rfl, ?_⟩
    rw [abs_eq, abs_eq]
    refine ⟨fun k σ H1 => H1 = H ∧ ∃ a b : Nat, σ = [some (.int a), some (.int b)] ∧ Nat.gcd a b = Nat.gcd n.natAbs m.natAbs ∧ k = b, ⟨_, rfl, n.natAbs, m.natAbs, rfl, rfl, rfl⟩, ?_⟩
    rintro k σ H1 ⟨rfl, a, b, rfl, hg, rfl⟩
    refine ⟨_, rfl, (k : Int), 0, rfl, rfl, _, rfl, ?_⟩
    by_cases hk : k = 0
    · subst hk
      refine iteF ⟨_, rfl, ?_⟩
      rw [Nat.gcd_zero_right] at hg
      rw [hg]
      exact q
    · rw [decide_eq_true (show ((k : Nat) : Int) > 0 by omega)]
      refine iteT ⟨fun σ' H' => H' = H1 ∧ ∃ a b : Nat, σ' = [some (.int a), some (.int b)] ∧ Nat.gcd a b = Nat.gcd n.natAbs m.natAbs ∧ b < k, ?_, ?_⟩
      · rintro σ' H' ⟨e, a', b', e2, e3, e4⟩
        exact ⟨b', e4, e, a', b', e2, e3, rfl⟩
      · refine ⟨_, rfl, _, rfl, .inl ⟨_, rfl, _, rfl, _, _, rfl, rfl, (by omega), _, _, rfl, rfl, k, a % k, ?_, ?_, Nat.mod_lt _ (by omega)⟩⟩
        · show [some (V.int (k : Int)), some (V.int ((a : Int) % (k : Int)))] = _
          rw [← Int.natCast_emod]
        · rw [gcd_step]
          exact hg
theorem ok33 (T : Tops K mg) : FnOk P w K mg base CX0 2 (T.fa 33) (T.fd 33) ["_law_n", "_law_m"] (spRatio K) := by
  refine T.d33.F.ok sc33 (fun vs H Q E h => ?_) (fun cdv A outer s H vs Q E hr h => ?_)
  · obtain ⟨n, m, rfl, _⟩ := h
    rfl
  · obtain ⟨n, m, rfl, ⟨hm, hz⟩, q⟩ := h
    refine ⟨_, pss_cons (ps_set (i := 2) sc33.nd rfl (.inl rfl) (pe_callD T.d32 (ok32 T) hr (pa_cons (pv 0) (pa_cons (pv 1) pa_nil))))
      (pss_cons (ps_set (i := 2) sc33.nd rfl (.inl rfl) (pe_ifExp (pt_cmpR op_gt (pv 1) pe_int (nomark _)) (pv 2) (pe_op op_sub pe_int (pv 2))))
      (pss_one (ps_ret (pe_tup (pa_cons (pe_op op_fdivW (pv 0) (pv 2)) (pa_cons (pe_op op_fdivW (pv 1) (pv 2)) pa_nil)))))), ?_⟩
    refine ⟨_, rfl, _, rfl, n, m, rfl, _, rfl, m, 0, rfl, rfl, _, rfl, ?_⟩
    rw [decide_eq_true (show m > 0 from hm)]
    refine iteT ⟨_, rfl, _, rfl, _, rfl, n, _, rfl, rfl, cdiv hm hz, _, rfl, _, rfl, m, _, rfl, rfl, cdiv hm hz, (by show 2 ≤ sizeLine; decide), fun p np => ?_⟩
    exact q _ _ (same_upd np) (Fr.new (frac_num hm) (frac_den hm))
theorem ok34 (T : Tops K mg) : FnOk P w K mg base CX0 3 (T.fa 34) (T.fd 34) ["_law_a", "_law_b"] (spBin K fun p q => p + q) := by
  refine T.d34.F.ok sc34 (fun vs H Q E h => ?_) (fun cdv A outer s H vs Q E hr h => ?_)
  · obtain ⟨v1, v2, q1, q2, rfl, _⟩ := h
    rfl
  · obtain ⟨v1, v2, q1, q2, rfl, h1, h2, m1, m2, q⟩ := h
    refine ⟨_, pss_cons (ps_if (PW.pt (pw_and (pt_cmpR op_eq (pv1 0) pe_int (nomark _)) (pw_and1 (pt_cmpR op_eq (pv1 1) pe_int (nomark _)))))
        (pss_one (ps_ret (pe_tup (pa_cons (pe_op op_add (pv0 0) (pv0 1)) (pa_cons pe_int pa_nil))))) pss_nil)
      (pss_one (ps_ret (pe_callD T.d33 (ok33 T) hr (pa_cons (pe_op op_add (pe_op op_mulW (pv0 0) (pv1 1)) (pe_op op_mulW (pv0 1) (pv1 0))) (pa_cons (pe_op op_mulW (pv1 0) (pv1 1)) pa_nil))))), ?_⟩
    have full : ∀ v H', Same H H' → Fr K H' v (mkRat (q1.num * (q2.den : Int) + q2.num * (q1.den : Int)) ((q1.den : Int) * (q2.den : Int)).toNat) → Q v H' := by
      intro v H' s' f
      rw [plus_eq] at f
      exact q v H' s' f
    refine ⟨_, q1, rfl, h1, rfl, _, rfl, ?_⟩
    rw [dec_int]
    refine ite2 (fun e1 => ?_) (fun _ => ?_)
    · refine ⟨_, q2, rfl, h2, rfl, _, rfl, ?_⟩
      rw [dec_int]
      refine ite2 (fun e2 => ?_) (fun _ => ?_)
      · have d1 : q1.den = 1 := by have := of_decide_eq_true e1; omega
        have d2 : q2.den = 1 := by have := of_decide_eq_true e2; omega
        refine ⟨_, q1, rfl, h1, _, q2, rfl, h2, _, _, rfl, rfl, (by show 2 ≤ sizeLine; decide), fun p np => ?_⟩
        refine q _ _ (same_upd np) (Fr.new (add_one_one d1 d2).1.symm ?_)
        rw [(add_one_one d1 d2).2]
        rfl
      · refine ⟨_, q1, rfl, h1, _, q2, rfl, h2, _, _, rfl, rfl, (mulW_sm m1 m2).2.1, ?_⟩
        refine ⟨_, q2, rfl, h2, _, q1, rfl, h1, _, _, rfl, rfl, (mulW_sm m2 m1).2.1, _, _, rfl, rfl, ?_⟩
        exact ⟨_, q1, rfl, h1, _, q2, rfl, h2, _, _, rfl, rfl, (mulW_sm m1 m2).2.2, _, _, rfl, den_mul m1 m2, full⟩
    · refine iteF ?_
      refine ⟨_, q1, rfl, h1, _, q2, rfl, h2, _, _, rfl, rfl, (mulW_sm m1 m2).2.1, ?_⟩
      refine ⟨_, q2, rfl, h2, _, q1, rfl, h1, _, _, rfl, rfl, (mulW_sm m2 m1).2.1, _, _, rfl, rfl, ?_⟩
      exact ⟨_, q1, rfl, h1, _, q2, rfl, h2, _, _, rfl, rfl, (mulW_sm m1 m2).2.2, _, _, rfl, den_mul m1 m2, full⟩
theorem ok35 (T : Tops K mg) : FnOk P w K mg base CX0 3 (T.fa 35) (T.fd 35) ["_law_a", "_law_b"] (spBin K fun p q => p * q) := by
  refine T.d35.F.ok sc35 (fun vs H Q E h => ?_) (fun cdv A outer s H vs Q E hr h => ?_)
  · obtain ⟨v1, v2, q1, q2, rfl, _⟩ := h
    rfl
  · obtain ⟨v1, v2, q1, q2, rfl, h1, h2, m1, m2, q⟩ := h
    refine ⟨_, pss_cons (ps_if (PW.pt (pw_and (pt_cmpR op_eq (pv1 0) pe_int (nomark _)) (pw_and1 (pt_cmpR op_eq (pv1 1) pe_int (nomark _)))))
        (pss_one (ps_ret (pe_tup (pa_cons (pe_op op_mulW (pv0 0) (pv0 1)) (pa_cons pe_int pa_nil))))) pss_nil)
      (pss_one (ps_ret (pe_callD T.d33 (ok33 T) hr (pa_cons (pe_op op_mulW (pv0 0) (pv0 1)) (pa_cons (pe_op op_mulW (pv1 0) (pv1 1)) pa_nil))))), ?_⟩
    have full : ∀ v H', Same H H' → Fr K H' v (mkRat (q1.num * q2.num) ((q1.den : Int) * (q2.den : Int)).toNat) → Q v H' := by
      intro v H' s' f
      rw [times_eq] at f
      exact q v H' s' f
    refine ⟨_, q1, rfl, h1, rfl, _, rfl, ?_⟩
    rw [dec_int]
    refine ite2 (fun e1 => ?_) (fun _ => ?_)
    · refine ⟨_, q2, rfl, h2, rfl, _, rfl, ?_⟩
      rw [dec_int]
      refine ite2 (fun e2 => ?_) (fun _ => ?_)
      · have d1 : q1.den = 1 := by have := of_decide_eq_true e1; omega
        have d2 : q2.den = 1 := by have := of_decide_eq_true e2; omega
        refine ⟨_, q1, rfl, h1, _, q2, rfl, h2, _, _, rfl, rfl, (mulW_sm m1 m2).1, (by show 2 ≤ sizeLine; decide), fun p np => ?_⟩
        refine q _ _ (same_upd np) (Fr.new (mul_one_one d1 d2).1.symm ?_)
        rw [(mul_one_one d1 d2).2]
        rfl
      · refine ⟨_, q1, rfl, h1, _, q2, rfl, h2, _, _, rfl, rfl, (mulW_sm m1 m2).1, ?_⟩
        exact ⟨_, q1, rfl, h1, _, q2, rfl, h2, _, _, rfl, rfl, (mulW_sm m1 m2).2.2, _, _, rfl, den_mul m1 m2, full⟩
    · refine iteF ?_
      refine ⟨_, q1, rfl, h1, _, q2, rfl, h2, _, _, rfl, rfl, (mulW_sm m1 m2).1, ?_⟩
      exact ⟨_, q1, rfl, h1, _, q2, rfl, h2, _, _, rfl, rfl, (mulW_sm m1 m2).2.2, _, _, rfl, den_mul m1 m2, full⟩
theorem ok44 (T : Tops K mg) : FnOk P w K mg base CX0 1 (T.fa 44) (T.fd 44) ["_law_base", "_law_count"] spPowI := by
  refine T.d44.F.ok sc44 (fun vs H Q E h => ?_) (fun cdv A outer s H vs Q E hr h => ?_)
  · obtain ⟨b, j, rfl, _⟩ := h
    rfl
  · obtain ⟨b, j, rfl, ⟨hb, hj⟩, q⟩ := h
    refine ⟨_, pss_cons (ps_set (i := 2) sc44.nd rfl (.inl rfl) pe_int)
      (pss_cons (ps_for PassesOwn.never rfl (pi_range1 (by rfl) T.z_range (pa_cons (pv 1) pa_nil)) (pg_name (i := 3) sc44.nd rfl (.inl rfl))
        (pss_one (ps_set (i := 2) sc44.nd rfl (.inl rfl) (pe_op op_mulW (pv 2) (pv 0)))))
      (pss_one (ps_ret (pv 2)))), ?_⟩
    refine ⟨_, rfl, (j : Int), rfl, by omega, by omega, ?_⟩
    rw [Int.toNat_natCast]
    refine for_range (lo := 0) (n := j) (fun i σ H1 => H1 = H ∧ ∃ c, σ = [some (.int b), some (.int (j : Int)), some (.int (b ^ i)), c]) ⟨rfl, none, by rw [Int.pow_zero]; rfl⟩ ?_ ?_
    · rintro i σ H1 hi ⟨rfl, c, rfl⟩
      refine ⟨_, rfl, _, rfl, _, _, rfl, rfl, wide_mul (pow_lt hb (by omega)) (Nat.lt_of_le_of_lt hb (show 4096 < 2 ^ 13 by decide)) (by decide) (by decide) (by decide), rfl, some (.int (0 + (i : Int))), ?_⟩
      rw [Int.pow_succ]
      rfl
    · rintro σ H1 ⟨rfl, c, rfl⟩
      exact ⟨_, rfl, q⟩
theorem ok45 (T : Tops K mg) : FnOk P w K mg base CX0 4 (T.fa 45) (T.fd 45) ["_law_some"] (spTotal K) := by
  refine T.d45.F.ok sc45 (fun vs H Q E h => ?_) (fun cdv A outer s H vs Q E hr h => ?_)
  · obtain ⟨a, xs, l, B, rfl, _⟩ := h
    rfl
  · obtain ⟨a, xs, l, B, rfl, ha, hf, hb, hB, q⟩ := h
    have smx : ∀ x ∈ l, Sm x := by
      intro x hx
      refine (hb x hx).sm (Nat.lt_of_le_of_lt ?_ hB)
      rw [Nat.succ_mul]
      omega
    have smt : ∀ i, Sm (tot (l.take i)) := by
      intro i
      refine (tot_bd fun x hx => hb x (List.mem_of_mem_take hx)).sm (Nat.lt_of_le_of_lt (Nat.mul_le_mul_right _ ?_) hB)
      rw [List.length_take]
      omega
    refine ⟨_, pss_cons (ps_set (i := 1) sc45.nd rfl (.inl rfl) (pe_tup (pa_cons pe_int (pa_cons pe_int pa_nil))))
      (pss_cons (ps_for PassesOwn.never rfl (pi_list (pv 0)) (pg_name (i := 2) sc45.nd rfl (.inl rfl))
        (pss_one (ps_set (i := 1) sc45.nd rfl (.inl rfl) (pe_callD T.d34 (ok34 T) hr (pa_cons (pv 1) (pa_cons (pv 2) pa_nil))))))
      (pss_one (ps_ret (pv 1)))), ?_⟩
    refine ⟨(by show 2 ≤ sizeLine; decide), fun z nz => ?_⟩
    have s0 := same_upd (o := .tup [.int 0, .int 1]) nz
    refine ⟨_, rfl, a, rfl, ⟨_, s0.seq ha⟩, for_list (K := K) (a := a) (xs := xs) (fun i σ H1 => Same H H1 ∧ ∃ v c, σ = [some (.ref a), some v, c] ∧ Fr K H1 v (tot (l.take i))) ⟨s0, .ref z, none, rfl, Fr.new rfl rfl⟩ (fun i σ H1 _ h => h.1.seq ha) ?_ ?_⟩
    · rintro i x σ H1 hx ⟨s1, v, c, rfl, fv⟩
      obtain ⟨b, hbq, fb⟩ := paired_get hf hx
      refine ⟨_, rfl, _, rfl, v, x, _, b, rfl, fv, fb.same s1, smt i, smx b (List.mem_of_getElem? hbq), fun v5 H5 s5 f5 => ?_⟩
      refine ⟨s1.trans s5, v5, some x, rfl, ?_⟩
      rw [tot_take hbq]
      exact f5
    · rintro σ H1 ⟨s1, v, c, rfl, fv⟩
      refine ⟨_, rfl, q _ _ s1 ?_⟩
      rw [List.take_of_length_le (by rw [Paired.length hf]; exact Nat.le_refl _)] at fv
      exact fv
end
end K42

set_option Elab.async false
set_option linter.all false
set_option maxRecDepth 100000
set_option maxHeartbeats 4000000
namespace K42
open PySem PySem.Spec PyProof.Rows L2
/-! ### within a comprehension: the written part said -/
section
variable {X : Cx} {K : PySem.W.Frag} {e a b : Expr} {te ta tb : TE} {p1 p2 pos : Pos} {j}
theorem pk_sub0 (hK : X.K = K) (he : PE X e te) : PE X (.Subscript e (.Constant (.int 0) j p1) p2) (tOp (rIxT K) te (tC (.int 0))) := by
  subst hK
  exact pe_sub0 he
theorem pk_ixL (hK : X.K = K) (ha : PE X a ta) (hb : PE X b tb) (hs : PlainIx b) : PE X (.Subscript a b pos) (tOp (rIxL K) ta tb) := by
  subst hK
  exact pe_ix ix_list ha hb hs
theorem pk_ixT (hK : X.K = K) (ha : PE X a ta) (hb : PE X b tb) (hs : PlainIx b) : PE X (.Subscript a b pos) (tOp (rIxT K) ta tb) := by
  subst hK
  exact pe_ix ix_tup ha hb hs
theorem ok_neD (hK : X.K = K) (hu : X.A.units + 64 < cLine) : OpR X (compareOp .NotEq) (rNeD K) := by
  subst hK
  exact op_neD hu
end
/-! ### lots on the heap: a dict's entries with the fractions that they stand for -/
abbrev M1 := List (V × Int × Rat)
def kvM (M : M1) : List (Key × V) := M.map fun m => (Sum.inl m.2.1, m.1)
structure LotM (K : PySem.W.Frag) (H : Hp) (d : Addr) (M : M1) : Prop where
  at_ : H d = some (.dK (kvM M))
  fr : ∀ m ∈ M, Fr K H m.1 m.2.2
  nd : (M.map (·.2.1)).Nodup
def Lot (K : PySem.W.Frag) (H : Hp) (d : Addr) (L : L1) : Prop := ∃ M, LotM K H d M ∧ L = M.map (·.2)
theorem LotM.same {K : PySem.W.Frag} {H H' : Hp} {d : Addr} {M : M1} (h : LotM K H d M) (s : Same H H') : LotM K H' d M := ⟨s _ _ h.at_, fun m hm => (h.fr m hm).same s, h.nd⟩
theorem Lot.same {K : PySem.W.Frag} {H H' : Hp} {d : Addr} {L : L1} (h : Lot K H d L) (s : Same H H') : Lot K H' d L := let ⟨M, a, b⟩ := h; ⟨M, a.same s, b⟩
theorem keysM (M : M1) : (M.map (·.2)).map (·.1) = M.map (·.2.1) := by rw [List.map_map]; rfl
theorem Lot.nd {K : PySem.W.Frag} {H : Hp} {d : Addr} {L : L1} (h : Lot K H d L) : (L.map (·.1)).Nodup := by
  obtain ⟨M, a, rfl⟩ := h
  rw [keysM]
  exact a.nd
theorem kvM_keys (M : M1) : (kvM M).map (·.1) = (M.map (·.2.1)).map Sum.inl := by
  unfold kvM
  rw [List.map_map, List.map_map]
  rfl
theorem inl_nodup : ∀ {l : List Int}, l.Nodup → (l.map (Sum.inl : Int → Key)).Nodup
  | [], _ => List.nodup_nil
  | x :: r, h => by
    rw [List.nodup_cons] at h
    rw [List.map_cons, List.nodup_cons]
    refine ⟨fun hm => ?_, inl_nodup h.2⟩
    obtain ⟨y, hy, e⟩ := List.mem_map.mp hm
    cases e
    exact h.1 hy
theorem valM {M : M1} (nd : (M.map (·.2.1)).Nodup) {m : V × Int × Rat} (hm : m ∈ M) : valV (kvM M) (Sum.inl m.2.1) = some m.1 :=
  val_nodup (kvs := kvM M) (by rw [kvM_keys]; exact inl_nodup nd) (Sum.inl m.2.1, m.1) (List.mem_map.mpr ⟨m, hm, rfl⟩)
theorem valM_none {M : M1} {k : Int} (h : k ∉ M.map (·.2.1)) : valV (kvM M) (Sum.inl k) = none := by
  induction M with
  | nil => rfl
  | cons m r ih =>
    rw [List.map_cons, List.mem_cons, not_or] at h
    show valV ((Sum.inl m.2.1, m.1) :: kvM r) (Sum.inl k) = none
    rw [valV_neg fun e => h.1 (Sum.inl.inj e).symm]
    exact ih h.2
theorem fr_look {K : PySem.W.Frag} {H : Hp} {M : M1} (nd : (M.map (·.2.1)).Nodup) (fr : ∀ m ∈ M, Fr K H m.1 m.2.2) {k : Int} {z : V} (hz : Fr K H z 0) : Fr K H ((valV (kvM M) (Sum.inl k)).getD z) (look (M.map (·.2)) k) := by
  by_cases h : k ∈ M.map (·.2.1)
  · obtain ⟨m, hm, rfl⟩ := List.mem_map.mp h
    rw [valM nd hm, look_mem (q := m.2.2) (by rw [keysM]; exact nd) (List.mem_map.mpr ⟨m, hm, rfl⟩)]
    exact fr m hm
  · rw [valM_none h, look_none (by rw [keysM]; exact h)]
    exact hz
/-! ### a dict that is locked, and let go -/
theorem Fr.off {K : PySem.W.Frag} {H : Hp} {d : Addr} {o : HO} {kvs : List (Key × V)} {v : V} {q : Rat} (h : Fr K H v q) (hd : H d = some (.dK kvs)) : Fr K (L2.upd H d o) v q := by
  obtain ⟨p, rfl, t⟩ := h
  refine ⟨p, rfl, ?_⟩
  rcases t with (t | ⟨ob, t⟩) | t
  · exact .inl (.inl (by rw [upd_ne (ne_of t hd (by intro z; cases z))]; exact t))
  · exact .inl (.inr ⟨ob, by rw [upd_ne (ne_of t hd (by intro z; cases z))]; exact t⟩)
  · exact .inr t
theorem SqT.offF {K : PySem.W.Frag} {H : Hp} {d p : Addr} {o : HO} {od : Obj} {kvs : List (Key × V)} {xs : List V} (t : SqT K H p xs) (hd : H d = some (.frz od (.dK kvs))) : SqT K (L2.upd H d o) p xs := by
  rcases t with (t | ⟨ob, t⟩) | t
  · exact .inl (.inl (by rw [upd_ne (ne_of t hd (by intro z; cases z))]; exact t))
  · exact .inl (.inr ⟨ob, by rw [upd_ne (ne_of t hd (by intro z; cases z))]; exact t⟩)
  · exact .inr t
theorem Fr.offF {K : PySem.W.Frag} {H : Hp} {d : Addr} {o : HO} {od : Obj} {kvs : List (Key × V)} {v : V} {q : Rat} (h : Fr K H v q) (hd : H d = some (.frz od (.dK kvs))) : Fr K (L2.upd H d o) v q :=
  let ⟨p, e, t⟩ := h
  ⟨p, e, SqT.offF t hd⟩
theorem Fr.offD {K : PySem.W.Frag} {H : Hp} {d : Addr} {o : HO} {xs : List V} {v : V} {q : Rat} (h : Fr K H v q) (hd : H d = some (.lst xs)) : Fr K (L2.upd H d o) v q := by
  obtain ⟨p, rfl, t⟩ := h
  exact ⟨p, rfl, Kp.upd.tup hd t⟩
theorem unlock {H H' : Hp} {d : Addr} {u : HO} (k : Kp d H H') (h : H d = some u) : Same H (L2.upd H' d u) := fun b o e => by
  by_cases hb : b = d
  · subst hb
    rw [upd_same]
    rw [h] at e
    exact e
  · rw [upd_ne hb]
    exact k _ _ e hb
theorem DGet.f {H : Hp} {a : Addr} {od : Obj} {kvs : List (Key × V)} {k : Key} (e : H a = some (.frz od (.dK kvs))) : DGet H a (kV k) (valV kvs k) := .inl ⟨kvs, k, .inr ⟨od, e⟩, rfl, rfl⟩
theorem DGet.m {H : Hp} {a : Addr} {od : Obj} {M : M1} {k : Int} {v : V} (e : H a = some (.frz od (.dK (kvM M)))) (h : valV (kvM M) (Sum.inl k) = some v) : DGet H a (.int k) (some v) := by
  rw [← h]
  exact DGet.f (k := Sum.inl k) e
/-! ### a list of new pairs, and the dict that is made of it -/
/-- pairs: each its own tuple, its value, its place, its fraction -/
structure Prs (K : PySem.W.Frag) (H : Hp) (D : Addr) (Z : List (Addr × V × Int × Rat)) : Prop where
  at_ : H D = some (.lst (Z.map fun z => .ref z.1))
  tup : ∀ z ∈ Z, SqT K H z.1 [.int z.2.2.1, z.2.1]
  fr : ∀ z ∈ Z, Fr K H z.2.1 z.2.2.2
theorem Prs.same {K : PySem.W.Frag} {H H' : Hp} {D : Addr} {Z : List (Addr × V × Int × Rat)} (h : Prs K H D Z) (s : Same H H') : Prs K H' D Z := ⟨s _ _ h.at_, fun z hz => Same.tup s (h.tup z hz), fun z hz => (h.fr z hz).same s⟩
theorem Prs.snoc {K : PySem.W.Frag} {H : Hp} {D t : Addr} {v : V} {k : Int} {q : Rat} {Z : List (Addr × V × Int × Rat)} (h : Prs K H D Z) (ht : SqT K H t [.int k, v]) (hv : Fr K H v q) :
    Prs K (L2.upd H D (.lst ((Z.map fun z => V.ref z.1) ++ [.ref t]))) D (Z ++ [(t, v, k, q)]) := by
  refine ⟨by rw [upd_same, List.map_append]; rfl, ?_, ?_⟩
  · intro z hz
    rcases List.mem_append.mp hz with hz | hz
    · exact Kp.upd.tup h.at_ (h.tup z hz)
    · rw [List.mem_singleton.mp hz]
      exact Kp.upd.tup h.at_ ht
  · intro z hz
    rcases List.mem_append.mp hz with hz | hz
    · exact (h.fr z hz).offD h.at_
    · rw [List.mem_singleton.mp hz]
      exact hv.offD h.at_
theorem Prs.free {K : PySem.W.Frag} {H : Hp} {D d : Addr} {o : HO} {od : Obj} {kvs : List (Key × V)} {Z : List (Addr × V × Int × Rat)} (h : Prs K H D Z) (hd : H d = some (.frz od (.dK kvs))) : Prs K (L2.upd H d o) D Z :=
  ⟨by rw [upd_ne (ne_of h.at_ hd (by intro z; cases z))]; exact h.at_, fun z hz => SqT.offF (h.tup z hz) hd, fun z hz => (h.fr z hz).offF hd⟩
theorem paired_map {α β γ : Type} {F : β → γ → Prop} (f : α → β) (g : α → γ) : ∀ {l : List α}, (∀ a ∈ l, F (f a) (g a)) → Paired F (l.map f) (l.map g)
  | [], _ => .nil
  | a :: r, h => .cons (h a List.mem_cons_self) (paired_map f g fun b hb => h b (List.mem_cons_of_mem _ hb))
theorem merge_new : ∀ (M N : M1), ((N ++ M).map (·.2.1)).Nodup → mergeK (kvM N) (kvM M) = kvM (N ++ M)
  | [], N, _ => by rw [List.append_nil]; rfl
  | m :: r, N, nd => by
    show mergeK (putK (kvM N) (Sum.inl m.2.1) m.1) (kvM r) = _
    have e : N ++ m :: r = (N ++ [m]) ++ r := by rw [List.append_assoc]; rfl
    have hn : m.2.1 ∉ N.map (·.2.1) := by
      rw [List.map_append, List.nodup_append] at nd
      exact fun h => nd.2.2 _ h _ (by rw [List.map_cons]; exact List.mem_cons_self) rfl
    rw [putK_new _ (valM_none hn), e]
    have e2 : kvM N ++ [(Sum.inl m.2.1, m.1)] = kvM (N ++ [m]) := by unfold kvM; rw [List.map_append]; rfl
    rw [e2]
    exact merge_new r (N ++ [m]) (by rw [← e]; exact nd)
/-- dict(the pairs) -/
theorem Prs.parts {K : PySem.W.Frag} {H : Hp} {D : Addr} {Z : List (Addr × V × Int × Rat)} (h : Prs K H D Z) (nd : ((Z.map (·.2.2)).map (·.1)).Nodup) :
    ∃ (ps : List Addr) (kvs : List (Key × V)), SqL K H D (ps.map V.ref) ∧ Paired (fun p kv => SqT K H p [kV kv.1, kv.2]) ps kvs ∧ mergeK [] kvs = kvM (Z.map (·.2)) ∧ ∀ d, H d = none → LotM K (L2.upd H d (.dK (kvM (Z.map (·.2))))) d (Z.map (·.2)) := by
  have nd2 : ((Z.map (·.2)).map (·.2.1)).Nodup := by
    rw [List.map_map] at nd ⊢
    exact nd
  have e : kvM (Z.map (·.2)) = Z.map fun z => ((Sum.inl z.2.2.1 : Key), z.2.1) := by
    unfold kvM
    rw [List.map_map]
    rfl
  refine ⟨Z.map (·.1), kvM (Z.map (·.2)), SqL.of (by rw [h.at_, List.map_map]; rfl), ?_, ?_, fun d hd => ⟨upd_same, fun m hm => ?_, nd2⟩⟩
  · rw [e]
    exact paired_map _ _ fun z hz => h.tup z hz
  · let M : M1 := Z.map (·.2)
    exact merge_new M [] nd2
  · obtain ⟨z, hz, rfl⟩ := List.mem_map.mp hm
    exact (h.fr z hz).same (same_upd hd)
theorem Prs.dict {K : PySem.W.Frag} {H : Hp} {D : Addr} {Z : List (Addr × V × Int × Rat)} {Q : VK} (h : Prs K H D Z) (nd : ((Z.map (·.2.2)).map (·.1)).Nodup) (q : ∀ d, H d = none → LotM K (L2.upd H d (.dK (kvM (Z.map (·.2))))) d (Z.map (·.2)) → Q (.ref d) (L2.upd H d (.dK (kvM (Z.map (·.2)))))) :
    ∃ (a : Addr) (ps : List Addr) (kvs : List (Key × V)), ([.ref D] : List V) = [.ref a] ∧ SqL K H a (ps.map V.ref) ∧ Paired (fun p kv => SqT K H p [kV kv.1, kv.2]) ps kvs ∧ ∀ p, H p = none → Q (.ref p) (L2.upd H p (.dK (mergeK [] kvs))) := by
  obtain ⟨ps, kvs, h1, h2, h3, h4⟩ := h.parts nd
  refine ⟨D, ps, kvs, rfl, h1, h2, fun d hd => ?_⟩
  rw [h3]
  exact q d hd (h4 d hd)
/-! ### what is told of lots -/
structure LOk (B n c : Nat) (L : L1) : Prop where
  nd : (L.map (·.1)).Nodup
  ne : ∀ p ∈ L, p.2 ≠ 0
  bd : ∀ p ∈ L, Bd B p.2
  pl : ∀ p ∈ L, p.1.natAbs ≤ c
  len : L.length ≤ n
def clr (L : L1) : L1 := L.filter fun p => !decide (p.2 = 0)
def spCleared (K : PySem.W.Frag) : Sp := fun vs H Q _ => ∃ d L, vs = [.ref d] ∧ Lot K H d L ∧ L.length ≤ 500 ∧ ∀ d' H', Same H H' → Lot K H' d' (clr L) → Q (.ref d') H'
def spLater (K : PySem.W.Frag) : Sp := fun vs H Q _ => ∃ d L e, vs = [.ref d, .int e] ∧ Lot K H d L ∧ L.length ≤ 500 ∧ ∀ d' H', Same H H' → Lot K H' d' (L.map fun p => (p.1 + e, p.2)) → Q (.ref d') H'
def spScaled (K : PySem.W.Frag) : Sp := fun vs H Q _ => ∃ d L v c, vs = [.ref d, v] ∧ Lot K H d L ∧ Fr K H v c ∧ Sm c ∧ (∀ p ∈ L, Sm p.2) ∧ L.length ≤ 500 ∧ ∀ d' H', Same H H' → Lot K H' d' (clr (L.map fun p => (p.1, p.2 * c))) → Q (.ref d') H'
theorem clr_snoc_ne {L : L1} {p : Int × Rat} (h : p.2 ≠ 0) : clr (L ++ [p]) = clr L ++ [p] := by
  unfold clr
  rw [List.filter_append, List.filter_cons_of_pos (by simpa using h), List.filter_nil]
theorem clr_snoc_eq {L : L1} {p : Int × Rat} (h : p.2 = 0) : clr (L ++ [p]) = clr L := by
  unfold clr
  rw [List.filter_append, List.filter_cons_of_neg (by simpa using h), List.filter_nil, List.append_nil]
theorem clr_nd {L : L1} (h : (L.map (·.1)).Nodup) : ((clr L).map (·.1)).Nodup := h.sublist (List.Sublist.map _ List.filter_sublist)
theorem take_snoc {α : Type} {l : List α} {i : Nat} {x : α} (h : l[i]? = some x) : l.take (i + 1) = l.take i ++ [x] := by
  rw [List.take_add_one, h]
  rfl
theorem small500 {n : Nat} (h : n ≤ 500) : n < sizeLine := Nat.lt_of_le_of_lt h (by decide)
section
variable {P : Program} {w : World} {K : PySem.W.Frag} {mg : Str → Option Value} {base : Heap}
theorem kvM_at {M : M1} {i : Nat} {k : Key} {v : V} (h : (kvM M)[i]? = some (k, v)) : ∃ m, M[i]? = some m ∧ k = Sum.inl m.2.1 ∧ v = m.1 := by
  unfold kvM at h
  rw [List.getElem?_map] at h
  cases e : M[i]? with
  | none => rw [e] at h; cases h
  | some m =>
    rw [e] at h
    cases h
    exact ⟨m, rfl, rfl, rfl⟩
theorem ok36 (T : Tops K mg) : FnOk P w K mg base CX0 1 (T.fa 36) (T.fd 36) ["_law_lot"] (spCleared K) := by
  refine T.d36.F.ok sc36 (fun vs H Q E h => ?_) (fun cdv A outer s H vs Q E hr h => ?_)
  · obtain ⟨d, L, rfl, _⟩ := h
    rfl
  · obtain ⟨d, L, rfl, ⟨M, hM, rfl⟩, hl, q⟩ := h
    rw [List.length_map] at hl
    have hu := hu_of hr
    refine ⟨_, pss_one (ps_ret (pe_callTy (call_dictP rfl) (by rfl) T.z_dict boot_dict (pa_cons (pe_lock (pe_lc (own := [("_law_k", 1)]) (g := gName 1) (by rfl) sc36.nd (pi_keys (pv 0)) (blkOk_by (N := ["_law_lot", "_law_k"]) (sc := defScope s36) (by decide +kernel))
      (fun _ _ _ _ _ => pg_name (i := 1) sc36.nd rfl (Or.inl rfl)) (fun _ _ _ _ _ => pts_one (pt_cmpR op_ne (pk_sub0 (K := K) rfl (pe_dget hu (pv 0) (pv 1) (fun _ _ => rfl))) pe_int (nomark _)))
      (fun _ _ _ _ _ => pe_tup (pa_cons (pv 1) (pa_cons (pe_dget hu (pv 0) (pv 1) (fun _ _ => rfl)) pa_nil))))) pa_nil))), ?_⟩
    refine ⟨d, _, hM.at_, trivial, fun od => ?_⟩
    have k0 : Kp d H (upd H d (.frz od (.dK (kvM M)))) := Kp.upd
    refine ⟨_, rfl, d, od, rfl, .inl ⟨_, upd_same, fun D nD => ?_⟩⟩
    have hDd : D ≠ d := fun e => by rw [e, upd_same] at nD; cases nD
    have nDH : H D = none := by rw [upd_ne hDd] at nD; exact nD
    have len : (kvM M).length = M.length := by unfold kvM; rw [List.length_map]
    refine lc_it (walk_keys (kvs := kvM M)) (fun i H1 => Kp d H H1 ∧ H1 d = some (.frz od (.dK (kvM M))) ∧ ∃ Z, Prs K H1 D Z ∧ Z.map (·.2.2) = clr ((M.map (·.2)).take i))
      ⟨k0.trans (Kp.of (same_upd nD)), by rw [upd_ne hDd.symm, upd_same], [], ⟨upd_same, fun z hz => absurd hz List.not_mem_nil, fun z hz => absurd hz List.not_mem_nil⟩, rfl⟩ (fun i H1 _ h => h.2.1) ?_ ?_
    · rintro i x H1 H2 hi ⟨k1, hd1, Z, hZ, eZ⟩ ⟨rfl, k, v, hkv, rfl⟩
      obtain ⟨m, hm, rfl, rfl⟩ := kvM_at hkv
      have hmem := List.mem_of_getElem? hm
      have hval := valM hM.nd hmem
      have fm : ∀ H3, Same H2 H3 → Fr K H3 m.1 m.2.2 := fun H3 s3 => by
        obtain ⟨p, e, t⟩ := hM.fr m hmem
        refine ⟨p, e, Same.tup s3 ?_⟩
        rcases t with (t | ⟨ob, t⟩) | t
        · exact .inl (.inl (k1 _ _ t (ne_of t hM.at_ (by intro z; cases z))))
        · exact .inl (.inr ⟨ob, k1 _ _ t (ne_of t hM.at_ (by intro z; cases z))⟩)
        · exact .inr t
      have ht := take_snoc (l := M.map (·.2)) (i := i) (x := m.2) (by rw [List.getElem?_map, hm]; rfl)
      have lenZ : Z.length ≤ 500 := by
        have e1 : Z.length = (clr ((M.map (·.2)).take i)).length := by rw [← eZ, List.length_map]
        have e2 : (clr ((M.map (·.2)).take i)).length ≤ ((M.map (·.2)).take i).length := List.length_filter_le _ _
        rw [List.length_take, List.length_map] at e2
        omega
      obtain ⟨p, ep, tp⟩ := fm H2 fun _ _ e => e
      refine ⟨rfl, _, rfl, _, rfl, d, m.1, rfl, DGet.m hd1 hval, p, _, 0, _, ep, rfl, tp, rfl, rfl, _, rfl, ?_⟩
      rw [dec_int]
      by_cases hz : m.2.2 = 0
      · have e : m.2.2.num = 0 := by rw [hz]; rfl
        rw [decide_eq_true e]
        refine iteF ⟨k1, hd1, Z, hZ, ?_⟩
        rw [ht, clr_snoc_eq hz]
        exact eZ
      · rw [decide_eq_false (num_ne hz)]
        refine iteT ⟨_, rfl, _, rfl, _, rfl, d, m.1, rfl, DGet.m hd1 hval, (by show 2 ≤ sizeLine; decide), fun t nt => ?_⟩
        have s3 := same_upd (o := .tup [.int m.2.1, m.1]) nt
        refine ⟨_, (hZ.same s3).at_, small500 (by rw [List.length_map]; exact lenZ), fun b o e nb => ?_, ?_, Z ++ [(t, m.1, m.2)], (hZ.same s3).snoc (SqT.of upd_same) (fm _ s3), ?_⟩
        · rw [upd_ne (ne_of_none e nDH)]
          exact s3 _ _ (k1 _ _ e nb)
        · rw [upd_ne hDd.symm]
          exact s3 _ _ hd1
        · rw [ht, clr_snoc_ne hz, List.map_append, eZ]
          rfl
    · rintro H1 ⟨k1, hd1, Z, hZ, eZ⟩
      refine ⟨hd1, ?_⟩
      have eZ' : Z.map (·.2.2) = clr (M.map (·.2)) := by
        rw [eZ, List.take_of_length_le (by rw [len, List.length_map]; exact Nat.le_refl _)]
      have ndM : ((M.map (·.2)).map (·.1)).Nodup := by rw [keysM]; exact hM.nd
      refine (hZ.free hd1).dict (by rw [eZ']; exact clr_nd ndM) fun d' nd' hL => ?_
      refine q d' _ ((unlock k1 hM.at_).trans (same_upd nd')) ⟨_, hL, ?_⟩
      rw [List.map_map]
      exact eZ'.symm
end
end K42

set_option Elab.async false
set_option linter.all false
set_option maxRecDepth 100000
set_option maxHeartbeats 4000000
namespace K42
open PySem PySem.Spec PyProof.Rows L2
/-! ### a comprehension over a lot -/
theorem kvM_len (M : M1) : (kvM M).length = M.length := by unfold kvM; rw [List.length_map]
theorem zmap (Z : List (Addr × V × Int × Rat)) : (Z.map (·.2)).map (·.2) = Z.map (·.2.2) := by
  rw [List.map_map]
  rfl
theorem wipe_one (σ : L2.St) (j : Nat) (x : Option V) : wipe ((wipe σ [j]).set j x) [j] = wipe σ [j] := by
  show ((σ.set j none).set j x).set j none = σ.set j none
  rw [List.set_set, List.set_set]
theorem Kp.fr {K : PySem.W.Frag} {H H2 : Hp} {d : Addr} {kvs : List (Key × V)} {v : V} {q : Rat} (k : Kp d H H2) (hd : H d = some (.dK kvs)) (h : Fr K H v q) : Fr K H2 v q := by
  obtain ⟨p, e, t⟩ := h
  refine ⟨p, e, ?_⟩
  rcases t with (t | ⟨ob, t⟩) | t
  · exact .inl (.inl (k _ _ t (ne_of t hd (by intro z; cases z))))
  · exact .inl (.inr ⟨ob, k _ _ t (ne_of t hd (by intro z; cases z))⟩)
  · exact .inr t
/-- new pairs of the lot's -/
theorem lot_comp {K : PySem.W.Frag} {H : Hp} {d : Addr} {M : M1} (hM : LotM K H d M) (hl : M.length ≤ 500) {i j : Nat} {σ : L2.St} {te : TE} {f : Int × Rat → Int × Rat} {Q : VK} (hσ : σ[i]? = some (some (.ref d)))
    (step : ∀ (od : Obj) (H2 : Hp) (m : V × Int × Rat) (Q' : VK), m ∈ M → Kp d H H2 → H2 d = some (.frz od (.dK (kvM M))) → Fr K H2 m.1 m.2.2 → (∀ t v H4, Same H2 H4 → SqT K H4 t [.int (f m.2).1, v] → Fr K H4 v (f m.2).2 → Q' (.ref t) H4) → te ((wipe σ [j]).set j (some (.int m.2.1))) H2 Q')
    (q : ∀ D H2 Z, Same H H2 → Prs K H2 D Z → Z.map (·.2.2) = (M.map (·.2)).map f → Q (.ref D) H2) : tLockE (tLc (iKeys (tVar i)) (gName j) tYes te [j]) σ H Q := by
  refine ⟨d, _, hM.at_, trivial, fun od => ⟨_, hσ, d, od, rfl, .inl ⟨_, upd_same, fun D nD => ?_⟩⟩⟩
  have hDd : D ≠ d := fun e => by rw [e, upd_same] at nD; cases nD
  have nDH : H D = none := by rw [upd_ne hDd] at nD; exact nD
  refine lc_itY (walk_keys (kvs := kvM M)) (fun i H1 => Kp d H H1 ∧ H1 d = some (.frz od (.dK (kvM M))) ∧ ∃ Z, Prs K H1 D Z ∧ Z.map (·.2.2) = ((M.map (·.2)).map f).take i)
    ⟨Kp.upd.trans (Kp.of (same_upd nD)), by rw [upd_ne hDd.symm, upd_same], [], ⟨upd_same, fun z hz => absurd hz List.not_mem_nil, fun z hz => absurd hz List.not_mem_nil⟩, rfl⟩ (fun i H1 _ h => h.2.1) ?_ ?_
  · rintro i x H1 H2 hi ⟨k1, hd1, Z, hZ, eZ⟩ ⟨rfl, k, v, hkv, rfl⟩
    obtain ⟨m, hm, rfl, rfl⟩ := kvM_at hkv
    have hmem := List.mem_of_getElem? hm
    refine ⟨wipe_one σ j _, step od H2 m _ hmem k1 hd1 (k1.fr hM.at_ (hM.fr m hmem)) fun t v H4 s4 tt fv => ?_⟩
    have ht := take_snoc (l := (M.map (·.2)).map f) (i := i) (x := f m.2) (by rw [List.getElem?_map, List.getElem?_map, hm]; rfl)
    have lenZ : Z.length ≤ 500 := by
      have e1 : Z.length = (((M.map (·.2)).map f).take i).length := by rw [← eZ, List.length_map]
      rw [List.length_take, List.length_map, List.length_map] at e1
      omega
    refine ⟨_, (hZ.same s4).at_, small500 (by rw [List.length_map]; exact lenZ), fun b o e nb => ?_, ?_, Z ++ [(t, v, f m.2)], (hZ.same s4).snoc tt fv, ?_⟩
    · rw [upd_ne (ne_of_none e nDH)]
      exact s4 _ _ (k1 _ _ e nb)
    · rw [upd_ne hDd.symm]
      exact s4 _ _ hd1
    · rw [ht, List.map_append, eZ]
      rfl
  · rintro H1 ⟨k1, hd1, Z, hZ, eZ⟩
    refine ⟨hd1, q D _ Z (unlock k1 hM.at_) (hZ.free hd1) ?_⟩
    rw [eZ, List.take_of_length_le (by rw [kvM_len, List.length_map, List.length_map]; exact Nat.le_refl _)]
/-- fractions of the lot's -/
theorem lot_compF {K : PySem.W.Frag} {H : Hp} {d : Addr} {M : M1} (hM : LotM K H d M) (hl : M.length ≤ 500) {i j : Nat} {σ : L2.St} {te : TE} {f : Int × Rat → Rat} {Q : VK} (hσ : σ[i]? = some (some (.ref d)))
    (step : ∀ (od : Obj) (H2 : Hp) (m : V × Int × Rat) (Q' : VK), m ∈ M → Kp d H H2 → H2 d = some (.frz od (.dK (kvM M))) → Fr K H2 m.1 m.2.2 → (∀ v H4, Same H2 H4 → Fr K H4 v (f m.2) → Q' v H4) → te ((wipe σ [j]).set j (some (.int m.2.1))) H2 Q')
    (q : ∀ D H2 xs, Same H H2 → H2 D = some (.lst xs) → Frs K H2 xs ((M.map (·.2)).map f) → Q (.ref D) H2) : tLockE (tLc (iKeys (tVar i)) (gName j) tYes te [j]) σ H Q := by
  refine ⟨d, _, hM.at_, trivial, fun od => ⟨_, hσ, d, od, rfl, .inl ⟨_, upd_same, fun D nD => ?_⟩⟩⟩
  have hDd : D ≠ d := fun e => by rw [e, upd_same] at nD; cases nD
  have nDH : H D = none := by rw [upd_ne hDd] at nD; exact nD
  refine lc_itY (walk_keys (kvs := kvM M)) (fun i H1 => Kp d H H1 ∧ H1 d = some (.frz od (.dK (kvM M))) ∧ ∃ xs, H1 D = some (.lst xs) ∧ Frs K H1 xs (((M.map (·.2)).map f).take i))
    ⟨Kp.upd.trans (Kp.of (same_upd nD)), by rw [upd_ne hDd.symm, upd_same], [], upd_same, .nil⟩ (fun i H1 _ h => h.2.1) ?_ ?_
  · rintro i x H1 H2 hi ⟨k1, hd1, xs, hD, hf⟩ ⟨rfl, k, v, hkv, rfl⟩
    obtain ⟨m, hm, rfl, rfl⟩ := kvM_at hkv
    have hmem := List.mem_of_getElem? hm
    refine ⟨wipe_one σ j _, step od H2 m _ hmem k1 hd1 (k1.fr hM.at_ (hM.fr m hmem)) fun v H4 s4 fv => ?_⟩
    have ht := take_snoc (l := (M.map (·.2)).map f) (i := i) (x := f m.2) (by rw [List.getElem?_map, List.getElem?_map, hm]; rfl)
    have lenx : xs.length ≤ 500 := by
      rw [Paired.length hf, List.length_take, List.length_map, List.length_map]
      omega
    have hD4 := s4 _ _ hD
    refine ⟨_, hD4, small500 lenx, fun b o e nb => ?_, ?_, xs ++ [v], upd_same, ?_⟩
    · rw [upd_ne (ne_of_none e nDH)]
      exact s4 _ _ (k1 _ _ e nb)
    · rw [upd_ne hDd.symm]
      exact s4 _ _ hd1
    · rw [ht]
      exact Paired.snoc ((Frs.same hf s4).into hD4) (fv.into hD4)
  · rintro H1 ⟨k1, hd1, xs, hD, hf⟩
    refine ⟨hd1, q D _ xs (unlock k1 hM.at_) ?_ ?_⟩
    · rw [upd_ne hDd]
      exact hD
    · rw [List.take_of_length_le (by rw [kvM_len, List.length_map, List.length_map]; exact Nat.le_refl _)] at hf
      exact Paired.mapP hf fun _ _ z => z.offF hd1
theorem add_inj_nd {L : L1} (e : Int) (h : (L.map (·.1)).Nodup) : ((L.map fun p => (p.1 + e, p.2)).map (·.1)).Nodup := by
  induction L with
  | nil => exact List.nodup_nil
  | cons p r ih =>
    rw [List.map_cons, List.nodup_cons] at h
    rw [List.map_cons, List.map_cons, List.nodup_cons]
    refine ⟨fun hm => h.1 ?_, ih h.2⟩
    rw [List.map_map] at hm
    obtain ⟨z, hz, ez⟩ := List.mem_map.mp hm
    have ez' : z.1 + e = p.1 + e := ez
    exact List.mem_map.mpr ⟨z, hz, by omega⟩
theorem mul_nd {L : L1} (c : Rat) (h : (L.map (·.1)).Nodup) : ((L.map fun p => (p.1, p.2 * c)).map (·.1)).Nodup := by
  rw [List.map_map]
  exact h
section
variable {P : Program} {w : World} {K : PySem.W.Frag} {mg : Str → Option Value} {base : Heap}
theorem ok41 (T : Tops K mg) : FnOk P w K mg base CX0 1 (T.fa 41) (T.fd 41) ["_law_lot", "_law_by"] (spLater K) := by
  refine T.d41.F.ok sc41 (fun vs H Q E h => ?_) (fun cdv A outer s H vs Q E hr h => ?_)
  · obtain ⟨d, L, e, rfl, _⟩ := h
    rfl
  · obtain ⟨d, L, e, rfl, ⟨M, hM, rfl⟩, hl, q⟩ := h
    rw [List.length_map] at hl
    have hu := hu_of hr
    refine ⟨_, pss_one (ps_ret (pe_callTy (call_dictP rfl) (by rfl) T.z_dict boot_dict (pa_cons (pe_lock (pe_lc (own := [("_law_k", 2)]) (g := gName 2) (tt := tYes) (by rfl) sc41.nd (pi_keys (pv 0)) (blkOk_by (N := ["_law_lot", "_law_by", "_law_k"]) (sc := defScope s41) (by decide +kernel))
      (fun _ _ _ _ _ => pg_name (i := 2) sc41.nd rfl (Or.inl rfl)) (fun _ _ _ _ _ => pts_nil)
      (fun _ _ _ _ _ => pe_tup (pa_cons (pe_op op_add (pv 2) (pv 1)) (pa_cons (pe_dget hu (pv 0) (pv 2) (fun _ _ => rfl)) pa_nil))))) pa_nil))), ?_⟩
    refine lot_comp hM hl (f := fun p => (p.1 + e, p.2)) rfl (fun od H2 m Q' hm k1 hd fm q' => ?_) fun D H2 Z s2 hZ eZ => ?_
    · refine ⟨_, rfl, _, rfl, _, _, rfl, rfl, _, rfl, _, rfl, d, m.1, rfl, DGet.m hd (valM hM.nd hm), (by show 2 ≤ sizeLine; decide), fun t nt => ?_⟩
      exact q' t m.1 _ (same_upd nt) (SqT.of upd_same) (fm.same (same_upd nt))
    · have ndM : ((M.map (·.2)).map (·.1)).Nodup := by rw [keysM]; exact hM.nd
      refine hZ.dict (by rw [eZ]; exact add_inj_nd e ndM) fun d' nd' hL => ?_
      refine q d' _ (s2.trans (same_upd nd')) ⟨_, hL, ?_⟩
      rw [zmap]
      exact eZ.symm
theorem ok39 (T : Tops K mg) : FnOk P w K mg base CX0 4 (T.fa 39) (T.fd 39) ["_law_lot", "_law_by"] (spScaled K) := by
  refine T.d39.F.ok sc39 (fun vs H Q E h => ?_) (fun cdv A outer s H vs Q E hr h => ?_)
  · obtain ⟨d, L, v, c, rfl, _⟩ := h
    rfl
  · obtain ⟨d, L, v, c, rfl, ⟨M, hM, rfl⟩, hv, sc, sm, hl, q⟩ := h
    rw [List.length_map] at hl
    have hu := hu_of hr
    refine ⟨_, pss_one (ps_ret (pe_callD T.d36 (ok36 T) (hr.mono (by decide)) (pa_cons (pe_callTy (call_dictP rfl) (by rfl) T.z_dict boot_dict (pa_cons (pe_lock (pe_lc (own := [("_law_k", 2)]) (g := gName 2) (tt := tYes) (by rfl) sc39.nd (pi_keys (pv 0)) (blkOk_by (N := ["_law_lot", "_law_by", "_law_k"]) (sc := defScope s39) (by decide +kernel))
      (fun _ _ _ _ _ => pg_name (i := 2) sc39.nd rfl (Or.inl rfl)) (fun _ _ _ _ _ => pts_nil)
      (fun _ _ _ _ _ => pe_tup (pa_cons (pv 2) (pa_cons (pe_callD T.d35 (ok35 T) hr (pa_cons (pe_dget hu (pv 0) (pv 2) (fun _ _ => rfl)) (pa_cons (pv 1) pa_nil))) pa_nil))))) pa_nil)) pa_nil))), ?_⟩
    refine lot_comp hM hl (f := fun p => (p.1, p.2 * c)) rfl (fun od H2 m Q' hm k1 hd fm q' => ?_) fun D H2 Z s2 hZ eZ => ?_
    · refine ⟨_, rfl, _, rfl, _, rfl, d, m.1, rfl, DGet.m hd (valM hM.nd hm), _, rfl, m.1, v, _, c, rfl, fm, k1.fr hM.at_ hv, sm _ (List.mem_map.mpr ⟨m, hm, rfl⟩), sc, fun v5 H5 s5 f5 => ⟨(by show 2 ≤ sizeLine; decide), fun t nt => ?_⟩⟩
      exact q' t v5 _ (s5.trans (same_upd nt)) (SqT.of upd_same) (f5.same (same_upd nt))
    · have ndM : ((M.map (·.2)).map (·.1)).Nodup := by rw [keysM]; exact hM.nd
      refine hZ.dict (Q := fun v H' => spCleared K [v] H' Q E0) (by rw [eZ]; exact mul_nd c ndM) fun d' nd' hL => ?_
      refine ⟨d', (M.map (·.2)).map fun p => (p.1, p.2 * c), rfl, ⟨_, hL, ?_⟩, by rw [List.length_map, List.length_map]; exact hl, fun d2 H3 s3 hL3 => ?_⟩
      · rw [zmap]
        exact eZ.symm
      · exact q d2 H3 ((s2.trans (same_upd nd')).trans s3) hL3
end
end K42

set_option Elab.async false
set_option linter.all false
set_option maxRecDepth 100000
set_option maxHeartbeats 4000000
namespace K42
open PySem PySem.Spec PyProof.Rows L2
/-! ### a value put at a place -/
def putM (M : M1) (k : Int) (v : V) (q : Rat) : M1 := if (M.any fun m => decide (m.2.1 = k)) = true then M.map fun m => if m.2.1 = k then (v, k, q) else m else M ++ [(v, k, q)]
theorem any_kvM (M : M1) (k : Int) : ((kvM M).any fun kv => decide (kv.1 = (Sum.inl k : Key))) = M.any fun m => decide (m.2.1 = k) := by
  unfold kvM
  rw [List.any_map]
  congr 1
  funext m
  show decide ((Sum.inl m.2.1 : Key) = Sum.inl k) = decide (m.2.1 = k)
  by_cases h : m.2.1 = k
  · rw [decide_eq_true h, decide_eq_true (by rw [h])]
  · rw [decide_eq_false h, decide_eq_false fun e => h (Sum.inl.inj e)]
theorem kvM_put (M : M1) (k : Int) (v : V) (q : Rat) : kvM (putM M k v q) = putK (kvM M) (Sum.inl k) v := by
  unfold putK putM
  rw [any_kvM]
  by_cases h : (M.any fun m => decide (m.2.1 = k)) = true
  · rw [if_pos h, if_pos h]
    unfold kvM
    rw [List.map_map, List.map_map]
    apply List.map_congr_left
    intro m _
    show ((Sum.inl (if m.2.1 = k then (v, k, q) else m).2.1 : Key), (if m.2.1 = k then (v, k, q) else m).1) = if (Sum.inl m.2.1 : Key) = Sum.inl k then (Sum.inl m.2.1, v) else (Sum.inl m.2.1, m.1)
    by_cases e : m.2.1 = k
    · rw [if_pos e, if_pos (by rw [e]), e]
    · rw [if_neg e, if_neg fun z => e (Sum.inl.inj z)]
  · rw [if_neg h, if_neg h]
    unfold kvM
    rw [List.map_append]
    rfl
theorem keys_put (M : M1) (k : Int) (v : V) (q : Rat) : (putM M k v q).map (·.2.1) = if (M.any fun m => decide (m.2.1 = k)) = true then M.map (·.2.1) else M.map (·.2.1) ++ [k] := by
  unfold putM
  by_cases h : (M.any fun m => decide (m.2.1 = k)) = true
  · rw [if_pos h, if_pos h, List.map_map]
    apply List.map_congr_left
    intro m _
    show (if m.2.1 = k then (v, k, q) else m).2.1 = m.2.1
    by_cases e : m.2.1 = k
    · rw [if_pos e, e]
    · rw [if_neg e]
  · rw [if_neg h, if_neg h, List.map_append]
    rfl
theorem any_mem {M : M1} {k : Int} : (M.any fun m => decide (m.2.1 = k)) = true ↔ k ∈ M.map (·.2.1) := by
  rw [List.any_eq_true, List.mem_map]
  exact ⟨fun ⟨m, h1, h2⟩ => ⟨m, h1, of_decide_eq_true h2⟩, fun ⟨m, h1, h2⟩ => ⟨m, h1, decide_eq_true h2⟩⟩
theorem nd_put {M : M1} (k : Int) (v : V) (q : Rat) (nd : (M.map (·.2.1)).Nodup) : ((putM M k v q).map (·.2.1)).Nodup := by
  rw [keys_put]
  by_cases h : (M.any fun m => decide (m.2.1 = k)) = true
  · rw [if_pos h]
    exact nd
  · rw [if_neg h, List.nodup_append]
    refine ⟨nd, by simp, fun a ha b hb e => h (any_mem.mpr ?_)⟩
    rw [List.mem_singleton.mp hb] at e
    rw [← e]
    exact ha
theorem mem_put {M : M1} {k : Int} {v : V} {q : Rat} {m : V × Int × Rat} (h : m ∈ putM M k v q) : m = (v, k, q) ∨ m ∈ M := by
  unfold putM at h
  split at h
  · obtain ⟨z, hz, e⟩ := List.mem_map.mp h
    by_cases e2 : z.2.1 = k
    · rw [if_pos e2] at e
      exact .inl e.symm
    · rw [if_neg e2] at e
      exact .inr (e ▸ hz)
  · rcases List.mem_append.mp h with h | h
    · exact .inr h
    · exact .inl (List.mem_singleton.mp h)
theorem len_put (M : M1) (k : Int) (v : V) (q : Rat) : (putM M k v q).length ≤ M.length + 1 := by
  unfold putM
  split
  · rw [List.length_map]
    exact Nat.le_succ _
  · rw [List.length_append]
    exact Nat.le_refl _
theorem mem_put_self {M : M1} {k : Int} {v : V} {q : Rat} : (v, k, q) ∈ putM M k v q := by
  unfold putM
  split
  · next h =>
    obtain ⟨m, h1, h2⟩ := List.any_eq_true.mp h
    exact List.mem_map.mpr ⟨m, h1, by rw [if_pos (of_decide_eq_true h2)]⟩
  · exact List.mem_append_right _ List.mem_cons_self
theorem mem_put_of {M : M1} {k : Int} {v : V} {q : Rat} {m : V × Int × Rat} (h : m ∈ M) (ne : m.2.1 ≠ k) : m ∈ putM M k v q := by
  unfold putM
  split
  · exact List.mem_map.mpr ⟨m, h, by rw [if_neg ne]⟩
  · exact List.mem_append_left _ h
theorem look_put {M : M1} (nd : (M.map (·.2.1)).Nodup) (k : Int) (v : V) (q : Rat) (k' : Int) : look ((putM M k v q).map (·.2)) k' = if k' = k then q else look (M.map (·.2)) k' := by
  have nd' : (((putM M k v q).map (·.2)).map (·.1)).Nodup := by rw [keysM]; exact nd_put k v q nd
  by_cases e : k' = k
  · rw [if_pos e, e]
    exact look_mem nd' (List.mem_map.mpr ⟨_, mem_put_self, rfl⟩)
  · rw [if_neg e]
    by_cases h : k' ∈ M.map (·.2.1)
    · obtain ⟨m, hm, rfl⟩ := List.mem_map.mp h
      rw [look_mem (q := m.2.2) nd' (List.mem_map.mpr ⟨m, mem_put_of hm e, rfl⟩), look_mem (q := m.2.2) (by rw [keysM]; exact nd) (List.mem_map.mpr ⟨m, hm, rfl⟩)]
    · rw [look_none (L := M.map (·.2)) (by rw [keysM]; exact h)]
      refine look_none ?_
      rw [keysM, keys_put]
      split
      · exact h
      · intro hm
        rcases List.mem_append.mp hm with hm | hm
        · exact h hm
        · exact e (List.mem_singleton.mp hm)
theorem look_snoc {L : L1} {p : Int × Rat} (nd : ((L ++ [p]).map (·.1)).Nodup) (k : Int) : look (L ++ [p]) k = look L k + (if k = p.1 then p.2 else 0) := by
  have hp : p.1 ∉ L.map (·.1) := by
    rw [List.map_append, List.nodup_append] at nd
    exact fun h => nd.2.2 _ h _ List.mem_cons_self rfl
  induction L with
  | nil =>
    show (if p.1 = k then p.2 else 0) = 0 + (if k = p.1 then p.2 else 0)
    rw [Rat.zero_add]
    by_cases e : k = p.1
    · rw [if_pos e, if_pos e.symm]
    · rw [if_neg e, if_neg fun z => e z.symm]
  | cons x r ih =>
    rw [List.map_cons, List.mem_cons, not_or] at hp
    show (if x.1 = k then x.2 else look (r ++ [p]) k) = (if x.1 = k then x.2 else look r k) + (if k = p.1 then p.2 else 0)
    by_cases e : x.1 = k
    · rw [if_pos e, if_pos e, if_neg (by rw [← e]; exact fun z => hp.1 z.symm), Rat.add_zero]
    · rw [if_neg e, if_neg e]
      refine ih ?_ hp.2
      rw [List.cons_append, List.map_cons, List.nodup_cons] at nd
      exact nd.2
theorem clr_look {L : L1} (nd : (L.map (·.1)).Nodup) (k : Int) : look (clr L) k = look L k := by
  rcases look_or (k := k) nd with e | e
  · rw [e]
    refine Classical.byContradiction fun h => ?_
    rcases look_or (k := k) (clr_nd nd) with e2 | e2
    · exact h e2
    · have h3 := (List.mem_filter.mp e2).1
      rw [look_mem nd h3] at e
      exact h e
  · by_cases hz : look L k = 0
    · rcases look_or (k := k) (clr_nd nd) with e2 | e2
      · rw [e2, hz]
      · exact (look_mem nd (List.mem_filter.mp e2).1).symm
    · exact look_mem (clr_nd nd) (List.mem_filter.mpr ⟨e, by simpa using hz⟩)
/-! ### the sum of two lots -/
structure SumOf (A B L : L1) : Prop where
  val : ∀ k, look L k = look A k + look B k
  ne : ∀ p ∈ L, p.2 ≠ 0
  keys : ∀ p ∈ L, p.1 ∈ A.map (·.1) ∨ p.1 ∈ B.map (·.1)
  len : L.length ≤ A.length + B.length
def spPlusL (K : PySem.W.Frag) : Sp := fun vs H Q _ => ∃ d1 d2 A B X Y, vs = [.ref d1, .ref d2] ∧ Lot K H d1 A ∧ Lot K H d2 B ∧ A.length ≤ 200 ∧ B.length ≤ 200 ∧ (∀ p ∈ A, Bd X p.2) ∧ (∀ p ∈ B, Bd Y p.2) ∧ X + Y < 2 ^ 250 ∧
  ∀ d' H' L', Same H H' → Lot K H' d' L' → SumOf A B L' → Q (.ref d') H'
def spLess (K : PySem.W.Frag) : Sp := fun vs H Q _ => ∃ d1 d2 A B X Y, vs = [.ref d1, .ref d2] ∧ Lot K H d1 A ∧ Lot K H d2 B ∧ A.length ≤ 200 ∧ B.length ≤ 200 ∧ (∀ p ∈ A, Bd X p.2) ∧ (∀ p ∈ B, Bd Y p.2) ∧ X + Y < 2 ^ 250 ∧
  ∀ d' H' L', Same H H' → Lot K H' d' L' → SumOf A (clr (B.map fun p => (p.1, p.2 * ((-1 : Int) : Rat)))) L' → Q (.ref d') H'
theorem Bd.left {A B : Nat} {q : Rat} (h : Bd A q) : Bd (A + B) q := h.mono (Nat.le_add_right _ _)
section
variable {P : Program} {w : World} {K : PySem.W.Frag} {mg : Str → Option Value} {base : Heap}
theorem ok38 (T : Tops K mg) : FnOk P w K mg base CX0 4 (T.fa 38) (T.fd 38) ["_law_one", "_law_two"] (spPlusL K) := by
  refine T.d38.F.ok sc38 (fun vs H Q E h => ?_) (fun cdv A outer s H vs Q E hr h => ?_)
  · obtain ⟨d1, d2, _, _, _, _, rfl, _⟩ := h
    rfl
  · obtain ⟨d1, d2, L1, L2, X, Y, rfl, ⟨M, hM, rfl⟩, ⟨N, hN, rfl⟩, hl1, hl2, hb1, hb2, hXY, q⟩ := h
    rw [List.length_map] at hl1 hl2
    have hu := hu_of hr
    refine ⟨_, pss_cons (ps_set (i := 3) sc38.nd rfl (.inl rfl) (pe_callTy (call_dictP rfl) (by rfl) T.z_dict boot_dict (pa_cons (pe_lock (pe_lc (own := [("_law_k", 2)]) (g := gName 2) (tt := tYes) (by rfl) sc38.nd (pi_keys (pv 0)) (blkOk_by (N := ["_law_one", "_law_two", "_law_k", "_law_found"]) (sc := defScope s38) (by decide +kernel))
        (fun _ _ _ _ _ => pg_name (i := 2) sc38.nd rfl (Or.inl rfl)) (fun _ _ _ _ _ => pts_nil)
        (fun _ _ _ _ _ => pe_tup (pa_cons (pv 2) (pa_cons (pe_dget hu (pv 0) (pv 2) (fun _ _ => rfl)) pa_nil))))) pa_nil)))
      (pss_cons (ps_lock (ps_for PassesOwn.never rfl (pi_keys (pv 1)) (pg_name (i := 2) sc38.nd rfl (.inl rfl))
        (pss_one (ps_dput hu (pv 3) (pv 2) (pe_callD T.d34 (ok34 T) hr (pa_cons (pe_dget2 hu (pv 3) (pv 2) (pe_tup (pa_cons pe_int (pa_cons pe_int pa_nil))) ⟨rfl, rfl, rfl, rfl⟩) (pa_cons (pe_dget hu (pv 1) (pv 2) (fun _ _ => rfl)) pa_nil))) rfl))))
      (pss_one (ps_ret (pe_callD T.d36 (ok36 T) (hr.mono (by decide)) (pa_cons (pv 3) pa_nil))))), ?_⟩
    refine lot_comp hM (by omega) (f := fun p => p) rfl (fun od H2 m Q' hm k1 hd fm q' => ?_) fun D H2 Z s2 hZ eZ => ?_
    · refine ⟨_, rfl, _, rfl, _, rfl, d1, m.1, rfl, DGet.m hd (valM hM.nd hm), (by show 2 ≤ sizeLine; decide), fun t nt => ?_⟩
      exact q' t m.1 _ (same_upd nt) (SqT.of upd_same) (fm.same (same_upd nt))
    rw [List.map_id'] at eZ
    have ndM : ((M.map (·.2)).map (·.1)).Nodup := by rw [keysM]; exact hM.nd
    have ndN : ((N.map (·.2)).map (·.1)).Nodup := by rw [keysM]; exact hN.nd
    obtain ⟨ps, kvs, g1, g2, g3, g4⟩ := hZ.parts (by rw [eZ]; exact ndM)
    refine ⟨D, ps, kvs, rfl, g1, g2, fun fo nfo => ?_⟩
    rw [g3]
    have hL := g4 fo nfo
    have s3 : Same H (L2.upd H2 fo (.dK (kvM (Z.map (·.2))))) := s2.trans (same_upd nfo)
    have hN3 := hN.same s3
    have eZ2 : (Z.map (·.2)).map (·.2) = M.map (·.2) := by rw [zmap]; exact eZ
    refine ⟨d2, _, hN3.at_, trivial, fun od => ⟨_, rfl, d2, od, rfl, .inl ⟨_, upd_same, ?_⟩⟩⟩
    have nfH : H fo = none := by
      cases e : H fo with
      | none => rfl
      | some o =>
        rw [s2 _ _ e] at nfo
        cases nfo
    have hfd : fo ≠ d2 := fun e => by rw [e, hN.at_] at nfH; cases nfH
    refine for_it (walk_keys (kvs := kvM N)) (fun i σ H4 => Kp d2 H H4 ∧ H4 d2 = some (.frz od (.dK (kvM N))) ∧ ∃ (c : Option V) (M' : M1), σ = [some (.ref d1), some (.ref d2), c, some (.ref fo)] ∧ LotM K H4 fo M' ∧
        (∀ k, look (M'.map (·.2)) k = look (M.map (·.2)) k + look ((N.map (·.2)).take i) k) ∧ (∀ m ∈ M', m.2.1 ∈ (M.map (·.2)).map (·.1) ∨ m.2.1 ∈ (N.map (·.2)).map (·.1)) ∧ M'.length ≤ M.length + i)
      ⟨(Kp.of s3).trans Kp.upd, upd_same, none, Z.map (·.2), rfl, ⟨by rw [upd_ne hfd]; exact hL.at_, fun m hm => (hL.fr m hm).off hN3.at_, hL.nd⟩, fun k => ?_, fun m hm => ?_, ?_⟩ (fun i σ H4 _ h => h.2.1) ?_ ?_
    · rw [eZ2]
      exact (Rat.add_zero _).symm
    · refine .inl ?_
      rw [← eZ2, keysM]
      exact List.mem_map.mpr ⟨m, hm, rfl⟩
    · have := congrArg List.length eZ2
      simp only [List.length_map] at this ⊢
      omega
    · rintro i x σ H4 H5 hi ⟨k4, hd4, c, M', rfl, hM', hval, hkeys, hlen⟩ ⟨rfl, k, v, hkv, rfl⟩
      obtain ⟨n, hn, rfl, rfl⟩ := kvM_at hkv
      have hmem := List.mem_of_getElem? hn
      rw [kvM_len] at hi
      have hget : (N.map (·.2))[i]? = some n.2 := by rw [List.getElem?_map, hn]; rfl
      have htk := take_snoc hget
      have ndt : (((N.map (·.2)).take i ++ [n.2]).map (·.1)).Nodup := by
        rw [← htk]
        exact ndN.sublist (List.Sublist.map _ (List.take_sublist _ _))
      have h0 : look ((N.map (·.2)).take i) n.2.1 = 0 := by
        refine look_none fun h => ?_
        rw [List.map_append, List.nodup_append] at ndt
        exact ndt.2.2 _ h _ List.mem_cons_self rfl
      refine ⟨_, rfl, fo, rfl, .inl ⟨_, .inl hM'.at_⟩, _, rfl, (by show 2 ≤ sizeLine; decide), fun t nt => ?_⟩
      have s5 := same_upd (o := .tup [.int 0, .int 1]) nt
      have hM5 := hM'.same s5
      refine ⟨_, DGet.k (k := Sum.inl n.2.1) hM5.at_, _, rfl, _, rfl, d2, n.1, rfl, DGet.m (s5 _ _ hd4) (valM hN.nd hmem), ?_⟩
      have fz : Fr K (L2.upd H5 t (.tup [.int 0, .int 1])) (.ref t) 0 := Fr.new rfl rfl
      have f1 := fr_look hM5.nd hM5.fr (k := n.2.1) fz
      have b1 : Bd X (look (M'.map (·.2)) n.2.1) := by
        rw [hval, h0, Rat.add_zero]
        exact look_bd ndM hb1
      have b2 : Bd Y n.2.2 := hb2 _ (List.mem_map.mpr ⟨n, hmem, rfl⟩)
      refine ⟨_, _, _, _, rfl, f1, (k4.fr hN.at_ (hN.fr n hmem)).same s5, b1.sm (by omega), b2.sm (by omega), fun v6 H6 s6 f6 => ?_⟩
      have hM6 := hM5.same s6
      refine ⟨_, rfl, _, rfl, fo, _, rfl, DPut.k (k := Sum.inl n.2.1) hM6.at_ (small500 (by rw [kvM_len]; omega)), ?_⟩
      rw [← kvM_put M' n.2.1 v6 (look (M'.map (·.2)) n.2.1 + n.2.2)]
      have kk : Kp d2 H H6 := (k4.trans (Kp.of s5)).trans (Kp.of s6)
      refine ⟨fun b o e nb => ?_, ?_, some (.int n.2.1), _, rfl, ⟨upd_same, fun m hm => ?_, nd_put _ _ _ hM6.nd⟩, fun k => ?_, fun m hm => ?_, ?_⟩
      · rw [upd_ne (ne_of_none e nfH)]
        exact kk _ _ e nb
      · rw [upd_ne hfd.symm]
        exact s6 _ _ (s5 _ _ hd4)
      · rcases mem_put hm with rfl | hm
        · exact f6.off hM6.at_
        · exact (hM6.fr m hm).off hM6.at_
      · rw [look_put hM6.nd, htk, look_snoc ndt]
        by_cases e : k = n.2.1
        · rw [if_pos e, if_pos e, hval, e, h0]
          grind
        · rw [if_neg e, if_neg e, hval]
          grind
      · rcases mem_put hm with rfl | hm
        · exact .inr (List.mem_map.mpr ⟨n.2, List.mem_map.mpr ⟨n, hmem, rfl⟩, rfl⟩)
        · exact hkeys m hm
      · have := len_put M' n.2.1 v6 (look (M'.map (·.2)) n.2.1 + n.2.2)
        omega
    · rintro σ H4 ⟨k4, hd4, c, M', rfl, hM', hval, hkeys, hlen⟩
      rw [kvM_len] at hval hlen
      rw [List.take_of_length_le (by rw [List.length_map]; exact Nat.le_refl _)] at hval
      refine ⟨hd4, _, rfl, fo, M'.map (·.2), rfl, ⟨M', ⟨by rw [upd_ne hfd]; exact hM'.at_, fun m hm => (hM'.fr m hm).offF hd4, hM'.nd⟩, rfl⟩, by rw [List.length_map]; omega, fun d' H' s' hL' => ?_⟩
      have ndM' : ((M'.map (·.2)).map (·.1)).Nodup := by rw [keysM]; exact hM'.nd
      refine q d' H' _ ((unlock k4 hN.at_).trans s') hL' ⟨fun k => ?_, fun p hp => ?_, fun p hp => ?_, ?_⟩
      · rw [clr_look ndM', hval]
      · have := (List.mem_filter.mp hp).2
        simpa using this
      · obtain ⟨m, hm, rfl⟩ := List.mem_map.mp (List.mem_filter.mp hp).1
        exact hkeys m hm
      · refine Nat.le_trans (List.length_filter_le _ _) ?_
        rw [List.length_map, List.length_map, List.length_map]
        exact hlen
theorem ok40 (T : Tops K mg) : FnOk P w K mg base CX0 5 (T.fa 40) (T.fd 40) ["_law_one", "_law_two"] (spLess K) := by
  refine T.d40.F.ok sc40 (fun vs H Q E h => ?_) (fun cdv A outer s H vs Q E hr h => ?_)
  · obtain ⟨d1, d2, _, _, _, _, rfl, _⟩ := h
    rfl
  · obtain ⟨d1, d2, A1, B1, X, Y, rfl, hA, hB, hl1, hl2, hb1, hb2, hXY, q⟩ := h
    refine ⟨_, pss_one (ps_ret (pe_callD T.d38 (ok38 T) hr (pa_cons (pv 0) (pa_cons (pe_callD T.d39 (ok39 T) hr (pa_cons (pv 1) (pa_cons (pe_tup (pa_cons (pe_un un_neg pe_int) (pa_cons pe_int pa_nil))) pa_nil))) pa_nil)))), ?_⟩
    refine ⟨_, rfl, _, rfl, 1, rfl, (by show 2 ≤ sizeLine; decide), fun t nt => ?_⟩
    have s1 := same_upd (o := .tup [.int (-1), .int 1]) nt
    refine ⟨d2, B1, _, ((-1 : Int) : Rat), rfl, hB.same s1, Fr.int, Sm.int (by decide), fun p hp => (hb2 p hp).sm (by omega), by omega, fun d' H' s' hL => ?_⟩
    refine ⟨d1, d', A1, _, X, Y, rfl, hA.same (s1.trans s'), hL, hl1, ?_, hb1, fun p hp => ?_, hXY, fun d2' H2 L' s2 hL2 hS => q d2' H2 L' ((s1.trans s').trans s2) hL2 hS⟩
    · refine Nat.le_trans (List.length_filter_le _ _) ?_
      rw [List.length_map]
      exact hl2
    · obtain ⟨z, hz, rfl⟩ := List.mem_map.mp (List.mem_filter.mp hp).1
      exact ((hb2 z hz).mulInt (-1) (B := 1) (by decide)).mono (by omega)
end
end K42

set_option Elab.async false
set_option linter.all false
set_option maxRecDepth 100000
set_option maxHeartbeats 4000000
namespace K42
open PySem PySem.Spec PyProof.Rows L2
/-! ### a lot as a row -/
def rowOf (L : L1) (lo : Int) (n : Nat) : List Rat := (List.range n).map fun i : Nat => look L (lo + (i : Int))
theorem rowOf_len (L : L1) (lo : Int) (n : Nat) : (rowOf L lo n).length = n := by unfold rowOf; rw [List.length_map, List.length_range]
theorem rowOf_at (L : L1) (lo : Int) {n i : Nat} (h : i < n) : (rowOf L lo n)[i]? = some (look L (lo + (i : Int))) := by
  unfold rowOf
  rw [List.getElem?_map, List.getElem?_range h]
  rfl
theorem rowOf_sum {L : L1} {lo : Int} {n : Nat} (nd : (L.map (·.1)).Nodup) (h : ∀ p ∈ L, lo ≤ p.1 ∧ p.1 < lo + n) (j : Nat) : psum lo (rowOf L lo n) j = made L 0 j := by
  have e : ((rowOf L lo n).zipIdx.map fun p : Rat × Nat => p.1 * (((-lo - (p.2 : Int)) ^ j : Int) : Rat)) = (List.range n).map fun i : Nat => look L (lo + i) * (((0 - (lo + (i : Int))) ^ j : Int) : Rat) := by
    apply List.ext_getElem?
    intro i
    rw [List.getElem?_map, List.getElem?_zipIdx, List.getElem?_map]
    by_cases hi : i < n
    · rw [rowOf_at L lo hi, List.getElem?_range hi]
      simp only [Option.map_some, Nat.zero_add]
      rw [show -lo - (i : Int) = 0 - (lo + (i : Int)) by omega]
    · rw [List.getElem?_eq_none (by rw [rowOf_len]; omega), List.getElem?_eq_none (by rw [List.length_range]; omega)]
      rfl
  unfold psum
  rw [e]
  exact range_lot (fun k => (((0 - k) ^ j : Int) : Rat)) lo n L nd h
theorem rowOf_ok {L : L1} {lo hi : Int} {a b : Rat} (nd : (L.map (·.1)).Nodup) (h1 : (lo, a) ∈ L) (h2 : (hi, b) ∈ L) (na : a ≠ 0) (nb : b ≠ 0) (hlh : lo ≤ hi) : RowOk lo (rowOf L lo (hi + 1 - lo).toNat) := by
  have en : (hi + 1 - lo).toNat = (hi - lo).toNat + 1 := by omega
  refine .inr ⟨?_, ?_⟩
  · rw [en]
    unfold rowOf
    rw [List.range_succ_eq_map, List.map_cons]
    refine ⟨_, _, rfl, ?_⟩
    rw [show lo + ((0 : Nat) : Int) = lo by omega, look_mem nd h1]
    exact na
  · rw [en]
    unfold rowOf
    rw [List.range_succ, List.map_append]
    refine ⟨_, _, rfl, ?_⟩
    show look L (lo + (((hi - lo).toNat : Nat) : Int)) ≠ 0
    rw [show lo + (((hi - lo).toNat : Nat) : Int) = hi by omega, look_mem nd h2]
    exact nb
theorem keys_int (M : M1) : ((kvM M).map fun kv => kV kv.1) = (M.map (·.2.1)).map V.int := by
  unfold kvM
  rw [List.map_map, List.map_map]
  rfl
def spLine (K : PySem.W.Frag) : Sp := fun vs H Q _ => ∃ d L B, vs = [.ref d] ∧ Lot K H d L ∧ (∀ p ∈ L, p.2 ≠ 0) ∧ (∀ p ∈ L, Bd B p.2) ∧ (∀ p ∈ L, p.1.natAbs ≤ 1000) ∧ L.length ≤ 500 ∧
  ∀ v H' s qs, Same H H' → Row K H' v s qs → RowOk s qs → (∀ j, psum s qs j = made L 0 j) → s.natAbs ≤ 1000 → qs.length ≤ 3000 → (∀ q ∈ qs, Bd B q) → Q v H'
section
variable {P : Program} {w : World} {K : PySem.W.Frag} {mg : Str → Option Value} {base : Heap}
theorem ok37 (T : Tops K mg) : FnOk P w K mg base CX0 1 (T.fa 37) (T.fd 37) ["_law_lot"] (spLine K) := by
  refine T.d37.F.ok sc37 (fun vs H Q E h => ?_) (fun cdv A outer s H vs Q E hr h => ?_)
  · obtain ⟨d, _, _, rfl, _⟩ := h
    rfl
  · obtain ⟨d, L, B, rfl, hLot, hne, hbd, hpl, hl, q⟩ := h
    obtain ⟨M, hM, rfl⟩ := id hLot
    have hu := hu_of hr
    have ndL := hLot.nd
    refine ⟨_, pss_cons (ps_if (pt_cmpR (op_emptyD hr.units0) (pv 0) pe_dnewK (nomark _)) (pss_one (ps_ret (pe_tup (pa_cons pe_int (pa_cons (pe_tup pa_nil) pa_nil))))) pss_nil)
      (pss_cons (ps_set (i := 1) sc37.nd rfl (.inl rfl) (pe_callB (cr_min rfl) (by rfl) T.z_min boot_min (pa_cons (pe_callTy (call_list_dK rfl) (by rfl) T.z_list boot_list (pa_cons (pv 0) pa_nil)) pa_nil)))
      (pss_one (ps_ret (pe_tup (pa_cons (pv 1) (pa_cons (pe_callTy call_tuple_of (by rfl) T.z_tuple boot_tuple (pa_cons (pe_lc (own := [("_law_k", 2)]) (g := gName 2) (tt := tYes) (by rfl) sc37.nd
          (pi_range2 (by rfl) T.z_range (pa_cons (pv 1) (pa_cons (pe_op op_add (pe_callB (cr_max rfl) (by rfl) T.z_max boot_max (pa_cons (pe_callTy (call_list_dK rfl) (by rfl) T.z_list boot_list (pa_cons (pv 0) pa_nil)) pa_nil)) pe_int) pa_nil)))
          (blkOk_by (N := ["_law_lot", "_law_first", "_law_k"]) (sc := defScope s37) (by decide +kernel)) (fun _ _ _ _ _ => pg_name (i := 2) sc37.nd rfl (Or.inl rfl)) (fun _ _ _ _ _ => pts_nil)
          (fun _ _ _ _ _ => pe_dget2 hu (pv 0) (pv 2) (pe_tup (pa_cons pe_int (pa_cons pe_int pa_nil))) ⟨rfl, rfl, rfl, rfl⟩)) pa_nil)) pa_nil)))))), ?_⟩
    refine ⟨_, rfl, fun e ne => ?_⟩
    have s1 := same_upd (o := .dK []) ne
    refine ⟨d, e, kvM M, rfl, rfl, s1 _ _ hM.at_, upd_same, _, rfl, ?_⟩
    rw [kvM_len]
    cases hMM : M with
    | nil =>
      refine iteT ⟨(by show 0 ≤ sizeLine; decide), fun t nt => ⟨(by show 2 ≤ sizeLine; decide), fun t2 nt2 => ?_⟩⟩
      have s2 := same_upd (o := .tup []) nt
      have s3 := same_upd (o := .tup [.int 0, .ref t]) nt2
      refine q _ _ 0 [] ((s1.trans s2).trans s3) ⟨t2, t, [], rfl, SqT.of upd_same, Same.tup s3 (SqT.of upd_same), .nil⟩ (.inl ⟨rfl, rfl⟩) (fun j => ?_) (by decide) (by decide) (fun z hz => absurd hz List.not_mem_nil)
      rw [hMM]
      rfl
    | cons m0 r0 =>
      rw [← hMM]
      have hpos : 0 < M.length := by rw [hMM]; exact Nat.zero_lt_succ _
      have hlen0 : (M.length == 0) = false := beq_eq_false_iff_ne.mpr (by omega)
      rw [hlen0]
      refine iteF ?_
      have hM1 := hM.same s1
      refine ⟨_, rfl, d, kvM M, rfl, hM1.at_, fun l1 nl1 => ?_⟩
      rw [keys_int]
      have s2 := same_upd (o := .lst ((M.map (·.2.1)).map V.int)) nl1
      refine ⟨l1, M.map (·.2.1), rfl, SqL.of upd_same, by rw [List.length_map]; exact hpos, fun lo hlo hmin => ?_⟩
      have hM2 := hM1.same s2
      refine ⟨_, rfl, _, rfl, _, rfl, d, kvM M, rfl, hM2.at_, fun l2 nl2 => ?_⟩
      rw [keys_int]
      have s3 := same_upd (o := .lst ((M.map (·.2.1)).map V.int)) nl2
      refine ⟨l2, M.map (·.2.1), rfl, SqL.of upd_same, by rw [List.length_map]; exact hpos, fun hi hhi hmax => ?_⟩
      have hM3 := hM2.same s3
      obtain ⟨ma, hma, ea⟩ := List.mem_map.mp hlo
      obtain ⟨mb, hmb, eb⟩ := List.mem_map.mp hhi
      have la : (lo, ma.2.2) ∈ M.map (·.2) := List.mem_map.mpr ⟨ma, hma, by rw [← ea]⟩
      have lb : (hi, mb.2.2) ∈ M.map (·.2) := List.mem_map.mpr ⟨mb, hmb, by rw [← eb]⟩
      have hlh : lo ≤ hi := hmin hi hhi
      have ba := hpl _ la
      have bb := hpl _ lb
      have ba' : lo.natAbs ≤ 1000 := ba
      have bb' : hi.natAbs ≤ 1000 := bb
      have hn : (hi + 1 - lo).toNat ≤ 2001 := by omega
      refine ⟨_, _, rfl, rfl, lo, hi + 1, rfl, ⟨by omega, by omega, by omega, by omega⟩, fun D nD => ?_⟩
      have s4 := same_upd (o := .lst []) nD
      have sA : Same H (upd (upd (upd (upd H e (.dK [])) l1 (.lst ((M.map (·.2.1)).map V.int))) l2 (.lst ((M.map (·.2.1)).map V.int))) D (.lst [])) := ((s1.trans s2).trans s3).trans s4
      have nDH : H D = none := Same.free ((s1.trans s2).trans s3) nD
      refine lc_itY (walk_range (lo := lo) (n := (hi + 1 - lo).toNat)) (fun i H1 => Same H H1 ∧ ∃ xs, H1 D = some (.lst xs) ∧ Frs K H1 xs ((rowOf (M.map (·.2)) lo (hi + 1 - lo).toNat).take i)) ⟨sA, [], upd_same, .nil⟩ (fun _ _ _ _ => trivial) ?_ ?_
      · rintro i x H1 H2 hi' ⟨s5, xs, hD, hf⟩ ⟨rfl, rfl⟩
        have hM5 := hM.same s5
        refine ⟨rfl, _, rfl, d, rfl, .inl ⟨_, .inl hM5.at_⟩, _, rfl, (by show 2 ≤ sizeLine; decide), fun t nt => ?_⟩
        have s6 := same_upd (o := .tup [.int 0, .int 1]) nt
        have hM6 := hM5.same s6
        refine ⟨_, DGet.k (k := Sum.inl (lo + (i : Int))) hM6.at_, ?_⟩
        have fz : Fr K (upd H2 t (.tup [.int 0, .int 1])) (.ref t) 0 := Fr.new rfl rfl
        have f1 := fr_look hM6.nd hM6.fr (k := lo + (i : Int)) fz
        have hD6 := s6 _ _ hD
        have lenx : xs.length ≤ 3000 := by
          rw [Paired.length hf, List.length_take, rowOf_len]
          omega
        refine ⟨xs, hD6, small5000 (by omega), Same.into (s5.trans s6) nDH, xs ++ [_], upd_same, ?_⟩
        rw [take_snoc (rowOf_at (M.map (·.2)) lo hi')]
        exact Paired.snoc (Frs.into (Frs.same hf s6) hD6) (f1.into hD6)
      · rintro H1 ⟨s5, xs, hD, hf⟩
        rw [List.take_of_length_le (by rw [rowOf_len]; exact Nat.le_refl _)] at hf
        refine ⟨D, xs, rfl, .inl ⟨SqL.of hD, fun t nt => ⟨(by show 2 ≤ sizeLine; decide), fun t2 nt2 => ?_⟩⟩⟩
        have s6 := same_upd (o := .tup xs) nt
        have s7 := same_upd (o := .tup [.int lo, .ref t]) nt2
        refine q _ _ lo (rowOf (M.map (·.2)) lo (hi + 1 - lo).toNat) ((s5.trans s6).trans s7) ⟨t2, t, xs, rfl, SqT.of upd_same, Same.tup s7 (SqT.of upd_same), Frs.same (Frs.same hf s6) s7⟩
          (rowOf_ok ndL la lb (hne (lo, ma.2.2) la) (hne (hi, mb.2.2) lb) hlh) (rowOf_sum ndL fun p hp => ?_) ba' (by rw [rowOf_len]; omega) (fun z hz => ?_)
        · have hp1 : p.1 ∈ M.map (·.2.1) := by
            rw [← keysM]
            exact List.mem_map.mpr ⟨p, hp, rfl⟩
          have h1 := hmin _ hp1
          have h2 := hmax _ hp1
          omega
        · unfold rowOf at hz
          obtain ⟨i, _, rfl⟩ := List.mem_map.mp hz
          exact look_bd ndL hbd
end
end K42

set_option Elab.async false
set_option linter.all false
set_option maxRecDepth 100000
set_option maxHeartbeats 4000000
namespace K42
open PySem PySem.Spec PyProof.Rows L2
/-! ### where draws come from -/
def Well (H : Hp) (w : Addr) : Prop := ∃ a b c : Int, H w = some (.lst [.int a, .int b, .int c]) ∧ 0 ≤ b ∧ b < 2 ^ 32
theorem Well.same {H H' : Hp} {w : Addr} (h : Well H w) (s : Same H H') : Well H' w := let ⟨a, b, c, e, r⟩ := h; ⟨a, b, c, s _ _ e, r⟩
def spTake : Sp := fun vs H Q _ => ∃ (w : Addr) (n : Int), vs = [.ref w, .int n] ∧ Well H w ∧ (0 < n ∧ n < 1073741824) ∧ ∀ r H', 0 ≤ r → r < n → Well H' w → Kp w H H' → Q (.int r) H'
def spPick (K : PySem.W.Frag) : Sp := fun vs H Q _ => ∃ (w t : Addr) (ns : List Int), vs = [.ref w, .ref t] ∧ Well H w ∧ SqT K H t (ns.map V.int) ∧ 0 < ns.length ∧ ns.length < 1000 ∧ ∀ x ∈ ns, ∀ H', Well H' w → Kp w H H' → Q (.int x) H'
def spRounds (K : PySem.W.Frag) : Sp := fun vs H Q _ => ∃ (a : Addr) (ns : List Int), vs = [.ref a] ∧ SqL K H a (ns.map V.int) ∧ ∀ r : Int, 0 ≤ r → r ≤ 3 → Q (.int r) H
def spWellL (K : PySem.W.Frag) : Sp := fun vs H Q _ => ∃ (a : Addr) (ns : List Int) (t : Int), vs = [.ref a, .int t] ∧ SqL K H a (ns.map V.int) ∧ (0 ≤ t ∧ t ≤ 3) ∧ ∀ p H', H p = none → Same H H' → Well H' p → Q (.ref p) H'
theorem emod_in (x : Int) {n : Int} (h : 0 < n) : 0 ≤ x % n ∧ x % n < n := ⟨Int.emod_nonneg _ (by omega), Int.emod_lt_of_pos _ h⟩
theorem lens63 {α : Type} {l : List α} {i : Nat} (h : i < l.length) : ∃ x, l[i]? = some x := ⟨l[i], List.getElem?_eq_getElem h⟩
section
variable {X : Cx} {x : Str} {p p1 p2 : Pos} {j}
theorem pw_at (i : Nat) {k : Int} (hN : X.N[i]? = some x := by rfl) (hv : Vis X.env.scope x := by first | exact Or.inl rfl | exact Or.inr (Or.inl rfl) | exact Or.inr (Or.inr rfl)) (hd : (x == ("__debug__" : Str)) = false := by decide)
    (hcd : (x == ("__classdict__" : Str)) = false := by decide) : PE X (.Subscript (.Name x p) (.Constant (.int k) j p1) p2) (tOp (rIxL X.K) (tVar i) (tC (.int k))) := pe_ix ix_list (pe_var hN hv hd hcd) pe_int (fun _ _ => rfl)
end
section
variable {P : Program} {w : World} {K : PySem.W.Frag} {mg : Str → Option Value} {base : Heap}
theorem ok29 (T : Tops K mg) : FnOk P w K mg base CX0 1 (T.fa 29) (T.fd 29) ["_law_well_here", "_law_count"] spTake := by
  refine T.d29.F.ok sc29 (fun vs H Q E h => ?_) (fun cdv A outer s H vs Q E hr h => ?_)
  · obtain ⟨_, _, rfl, _⟩ := h
    rfl
  · obtain ⟨w, n, rfl, ⟨a, b, c, hw, b0, b1⟩, ⟨n0, n1⟩, q⟩ := h
    refine ⟨_, pss_cons (ps_if (pt_cmpR op_gt (pw_at 0) pe_int (nomark _))
        (pss_cons (ps_asg (pe_callB call_divmodW (by rfl) T.z_divmod boot_divmod (pa_cons (pw_at 0) (pa_cons (pv 1) pa_nil))) (pg_tup rfl (pgs_cons (pg_sub (pv 0) pe_int set_list) (pgs_cons (pg_name (i := 2) sc29.nd rfl (.inl rfl)) pgs_nil))))
          (pss_one (ps_ret (pv 2)))) pss_nil)
      (pss_cons (ps_asg (pe_op op_add (pw_at 0) pe_int) (pg_sub (pv 0) pe_int set_list))
      (pss_cons (ps_asg (pe_op op_mod (pe_callTy call_int1 (by rfl) T.z_int boot_int (pa_cons (pe_op op_add (pe_op op_add (pe_op op_mul (pw_at 0) (pe_op op_add pe_int (pe_op op_mul pe_int (pw_at 0)))) (pe_op op_mul pe_int (pw_at 0))) pe_int) pa_nil)) pe_int) (pg_sub (pv 0) pe_int set_list))
      (pss_one (ps_ret (pe_op op_mod (pe_callTy call_int1 (by rfl) T.z_int boot_int (pa_cons (pe_op op_fdiv (pe_op op_mod (pe_callTy call_int1 (by rfl) T.z_int boot_int (pa_cons (pe_op op_mul (pw_at 0) (pe_op op_add (pw_at 0) pe_int)) pa_nil)) pe_int) pe_int) pa_nil)) (pv 1)))))), ?_⟩
    refine ⟨_, rfl, w, _, 0, _, rfl, rfl, SqL.of hw, rfl, a, 0, rfl, rfl, _, rfl, ?_⟩
    refine ite2 (fun ha => ?_) (fun _ => ?_)
    · refine ⟨_, rfl, w, _, 0, _, rfl, rfl, SqL.of hw, rfl, _, rfl, a, n, rfl, divp_small n0 n1, fun t nt => ?_⟩
      have s1 := same_upd (o := .tup [.int (a / n), .int (a % n)]) nt
      have hw1 := s1 _ _ hw
      refine ⟨t, _, rfl, SqT.of upd_same, rfl, _, _, rfl, _, rfl, w, _, 0, 0, rfl, rfl, hw1, rfl, _, _, rfl, rfl, _, rfl, ?_⟩
      refine q _ _ (emod_in a n0).1 (emod_in a n0).2 ⟨a / n, b, c, upd_same, b0, b1⟩ ((Kp.of s1).trans Kp.upd)
    · refine ⟨_, rfl, w, _, 2, _, rfl, rfl, SqL.of hw, rfl, c, 1, rfl, rfl, _, rfl, w, _, 2, 2, rfl, rfl, hw, rfl, ?_⟩
      have h1 : (upd H w (.lst ([V.int a, .int b, .int c].set 2 (.int (c + 1))))) w = some (.lst [.int a, .int b, .int (c + 1)]) := upd_same
      refine ⟨_, rfl, w, _, 1, _, rfl, rfl, SqL.of h1, rfl, _, rfl, w, _, 2, _, rfl, rfl, SqL.of h1, rfl, 2, _, rfl, rfl, .inl (by decide), 16807, _, rfl, rfl, b, _, rfl, rfl, .inl ⟨by omega, by omega⟩, ?_⟩
      refine ⟨_, rfl, w, _, 2, _, rfl, rfl, SqL.of h1, rfl, 7919, _, rfl, rfl, .inl (by decide), _, _, rfl, rfl, _, 3, rfl, rfl, .inl ⟨_, rfl, _, 2147483647, rfl, rfl, (by show (0 : Int) < 2147483647; decide), _, rfl, w, _, 1, 1, rfl, rfl, h1, rfl, ?_⟩⟩
      rw [upd_upd]
      have hb2 := emod_in (b * (16807 + 2 * (c + 1)) + 7919 * (c + 1) + 3) (n := 2147483647) (by decide)
      have h2 : ∀ {H3 : Hp}, (upd H3 w (.lst (([V.int a, .int b, .int c].set 2 (.int (c + 1))).set 1 (.int ((b * (16807 + 2 * (c + 1)) + 7919 * (c + 1) + 3) % 2147483647))))) w = some (.lst [.int a, .int ((b * (16807 + 2 * (c + 1)) + 7919 * (c + 1) + 3) % 2147483647), .int (c + 1)]) := upd_same
      refine ⟨_, rfl, w, _, 1, _, rfl, rfl, SqL.of h2, rfl, _, rfl, w, _, 1, _, rfl, rfl, SqL.of h2, rfl, _, 17, rfl, rfl, _, _, rfl, rfl, .inl ⟨by omega, by omega⟩, .inl ⟨_, rfl, _, 2147483629, rfl, rfl, (by show (0 : Int) < 2147483629; decide), _, 23, rfl, rfl, (by show (0 : Int) < 23 ∧ (23 : Int) < 1073741824; decide), .inl ⟨_, rfl, _, rfl, _, n, rfl, rfl, n0, ?_⟩⟩⟩
      exact q _ _ (emod_in _ n0).1 (emod_in _ n0).2 ⟨a, _, c + 1, h2, hb2.1, by omega⟩ Kp.upd
theorem ok30 (T : Tops K mg) : FnOk P w K mg base CX0 2 (T.fa 30) (T.fd 30) ["_law_well_here", "_law_some"] (spPick K) := by
  refine T.d30.F.ok sc30 (fun vs H Q E h => ?_) (fun cdv A outer s H vs Q E hr h => ?_)
  · obtain ⟨_, _, _, rfl, _⟩ := h
    rfl
  · obtain ⟨w, t, ns, rfl, hw, ht, n0, n1, q⟩ := h
    refine ⟨_, pss_one (ps_ret (pe_ix ix_tup (pv 1) (pe_callD T.d29 (ok29 T) hr (pa_cons (pv 0) (pa_cons (pe_callB call_len_seq (by rfl) T.z_len boot_len (pa_cons (pv 1) pa_nil)) pa_nil))) (fun _ _ => rfl))), ?_⟩
    refine ⟨_, rfl, _, rfl, _, rfl, t, _, rfl, .inr ht, w, _, rfl, hw, ⟨by rw [List.length_map]; omega, by rw [List.length_map]; omega⟩, fun r H' r0 r1 hw' k => ?_⟩
    rw [List.length_map] at r1
    obtain ⟨y, hy⟩ := lens63 (l := ns) (i := r.toNat) (by omega)
    obtain ⟨a, b, c, e, _⟩ := id hw
    refine ⟨t, ns.map V.int, r, .int y, rfl, rfl, k.tup e ht, ?_, q y (List.mem_of_getElem? hy) H' hw' k⟩
    have h3 : (ns.map V.int)[r.toNat]? = some (.int y) := by rw [List.getElem?_map, hy]; rfl
    have h4 := atI_nat h3
    rw [Int.toNat_of_nonneg r0] at h4
    exact h4
theorem ok31 (T : Tops K mg) : FnOk P w K mg base CX0 1 (T.fa 31) (T.fd 31) ["_law_script"] (spRounds K) := by
  refine T.d31.F.ok sc31 (fun vs H Q E h => ?_) (fun cdv A outer s H vs Q E hr h => ?_)
  · obtain ⟨_, _, rfl, _⟩ := h
    rfl
  · obtain ⟨a, ns, rfl, ha, q⟩ := h
    refine ⟨_, pss_one (ps_ret (pe_callB (call_max2 rfl) (by rfl) T.z_max boot_max (pa_cons pe_int (pa_cons (pe_callB (call_min2 rfl) (by rfl) T.z_min boot_min (pa_cons (pe_callB call_len_seq (by rfl) T.z_len boot_len (pa_cons (pv 0) pa_nil)) (pa_cons pe_int pa_nil))) pa_nil)))), ?_⟩
    refine ⟨_, rfl, a, _, rfl, .inl ha, _, 3, rfl, 2, _, rfl, ?_⟩
    refine q _ ?_ ?_
    · split <;> split <;> omega
    · split <;> split <;> omega
theorem cut_ints (ns : List Int) (o1 o2 : Option Int) : ∃ ms : List Int, cutV (ns.map V.int) o1 o2 = ms.map V.int := by
  refine ⟨((ns.drop (HT.sIx (ns.map V.int).length 0 o1)).take (HT.sIx (ns.map V.int).length (ns.map V.int).length o2 - HT.sIx (ns.map V.int).length 0 o1)), ?_⟩
  unfold cutV
  rw [List.map_take, List.map_drop]
theorem ok28 (T : Tops K mg) : FnOk P w K mg base CX0 1 (T.fa 28) (T.fd 28) ["_law_script", "_law_turn"] (spWellL K) := by
  refine T.d28.F.ok sc28 (fun vs H Q E h => ?_) (fun cdv A outer s H vs Q E hr h => ?_)
  · obtain ⟨_, _, _, rfl, _⟩ := h
    rfl
  · obtain ⟨a, ns, t, rfl, ha, ⟨t0, t1⟩, q⟩ := h
    refine ⟨_, pss_cons (ps_set (i := 2) sc28.nd rfl (.inl rfl) (pe_op op_add pe_int (pe_op op_mul pe_int (pv 1))))
      (pss_cons (ps_for PassesOwn.never rfl (pi_list (pe_slice sl_list (pv 0) po_none (po_some pe_int))) (pg_name (i := 3) sc28.nd rfl (.inl rfl))
        (pss_one (ps_set (i := 2) sc28.nd rfl (.inl rfl) (pe_op op_mod (pe_callTy call_int1 (by rfl) T.z_int boot_int (pa_cons (pe_op op_add (pe_op op_add (pe_op op_mul (pv 2) pe_int) (pe_op op_mod (pe_callTy call_int1 (by rfl) T.z_int boot_int (pa_cons (pv 3) pa_nil)) pe_int)) pe_int) pa_nil)) pe_int))))
      (pss_cons (ps_set (i := 4) sc28.nd rfl (.inl rfl) (pe_ifExp (pt_cmpR op_lt (pv 1) (pe_callB call_len_seq (by rfl) T.z_len boot_len (pa_cons (pv 0) pa_nil)) (nomark _))
        (pe_callB call_abs (by rfl) T.z_abs boot_abs (pa_cons (pe_callTy call_int1 (by rfl) T.z_int boot_int (pa_cons (pe_ix ix_list (pv 0) (pv 1) (fun _ _ => rfl)) pa_nil)) pa_nil)) (pe_op op_add pe_int (pe_op op_mul pe_int (pv 1)))))
      (pss_cons (ps_set (i := 2) sc28.nd rfl (.inl rfl) (pe_op op_mod (pe_callTy call_int1 (by rfl) T.z_int boot_int (pa_cons (pe_op op_add (pe_op op_add (pe_op op_mul (pv 2) pe_int) (pe_op op_mul (pe_op op_mod (pe_callTy call_int1 (by rfl) T.z_int boot_int (pa_cons (pv 4) pa_nil)) pe_int) pe_int)) pe_int) pa_nil)) pe_int))
      (pss_one (ps_ret (pe_lst (pa_cons (pe_ifExp (pt_cmpR op_ge (pv 4) (pe_op op_pow pe_int pe_int) (nomark _)) (pv 4) pe_int) (pa_cons (pv 2) (pa_cons pe_int pa_nil))))))))), ?_⟩
    refine ⟨_, rfl, 7349, t, rfl, rfl, .inl (by decide), 60101, _, rfl, rfl, ?_⟩
    refine ⟨_, rfl, 10, rfl, a, _, rfl, ha, fun c nc => ?_⟩
    obtain ⟨ms, em⟩ := cut_ints ns none (some 10)
    rw [em]
    have s1 := same_upd (o := .lst (ms.map V.int)) nc
    refine ⟨c, rfl, ⟨_, SqL.of upd_same⟩, for_list (K := K) (a := c) (xs := ms.map V.int) (fun i σ H1 => H1 = upd H c (.lst (ms.map V.int)) ∧ ∃ (m : Int) (u : Option V), σ = [some (.ref a), some (.int t), some (.int m), u, none] ∧ 0 ≤ m ∧ m < 2 ^ 40) ⟨rfl, _, none, rfl, by omega, by omega⟩ (fun i σ H1 _ h => h.1 ▸ SqL.of upd_same) ?_ ?_⟩
    · rintro i x σ H1 hx ⟨rfl, m, u, rfl, m0, m1⟩
      have hx' : ∃ y, x = .int y := by
        rw [List.getElem?_map] at hx
        cases e : ms[i]? with
        | none => rw [e] at hx; cases hx
        | some y => rw [e] at hx; cases hx; exact ⟨y, rfl⟩
      obtain ⟨y, rfl⟩ := hx'
      refine ⟨_, rfl, m, 48673, rfl, rfl, .inl ⟨by omega, by omega⟩, _, rfl, .inl ⟨y, rfl, y, 2147483563, rfl, rfl, (by show (0 : Int) < 2147483563; decide), _, _, rfl, rfl, _, 29, rfl, rfl, .inl ⟨_, rfl, _, 2147483629, rfl, rfl, (by show (0 : Int) < 2147483629; decide), ?_⟩⟩⟩
      have hm := emod_in (m * 48673 + y % 2147483563 + 29) (n := 2147483629) (by decide)
      exact ⟨rfl, _, some (.int y), rfl, hm.1, by omega⟩
    · rintro σ H1 ⟨rfl, m, u, rfl, m0, m1⟩
      have ha1 := s1.seq ha
      refine ⟨_, rfl, _, rfl, a, _, rfl, .inl ha1, t, _, rfl, rfl, _, rfl, ?_⟩
      refine ite2 (fun h => ?_) (fun _ => ?_)
      · have ht : t < ((ns.map V.int).length : Int) := of_decide_eq_true h
        rw [List.length_map] at ht
        obtain ⟨y, hy⟩ := lens63 (l := ns) (i := t.toNat) (by omega)
        have h4 : atI (ns.map V.int) t = some (.int y) := by
          have h3 : (ns.map V.int)[t.toNat]? = some (.int y) := by rw [List.getElem?_map, hy]; rfl
          have h4 := atI_nat h3
          rw [Int.toNat_of_nonneg t0] at h4
          exact h4
        refine ⟨_, rfl, _, rfl, a, _, t, _, rfl, rfl, ha1, h4, .inl ⟨y, rfl, y, rfl, ?_⟩⟩
        generalize ho : (if y < 0 then -y else y) = o
        have hm := emod_in (m * 131 + o % 2147483549 * 6091 + 11) (n := 2147483629) (by decide)
        refine ⟨_, rfl, m, 131, rfl, rfl, .inl ⟨by omega, by omega⟩, _, rfl, .inl ⟨o, rfl, o, 2147483549, rfl, rfl, (by show (0 : Int) < 2147483549; decide), _, 6091, rfl, rfl, .inl ⟨by omega, by omega⟩, _, _, rfl, rfl, _, 11, rfl, rfl, .inl ⟨_, rfl, _, 2147483629, rfl, rfl, (by show (0 : Int) < 2147483629; decide), ?_⟩⟩⟩
        refine ⟨_, rfl, 10, 18, rfl, rfl, ⟨by decide, by decide, by decide⟩, o, _, rfl, rfl, _, rfl, ?_⟩
        refine ite2 (fun _ => ?_) (fun _ => ?_)
        · refine ⟨_, rfl, _, rfl, (by show 3 ≤ sizeLine; decide), fun p np => ?_⟩
          exact q p _ (Same.free s1 np) (s1.trans (same_upd np)) ⟨o, _, 0, upd_same, hm.1, by omega⟩
        · refine ⟨_, rfl, (by show 3 ≤ sizeLine; decide), fun p np => ?_⟩
          exact q p _ (Same.free s1 np) (s1.trans (same_upd np)) ⟨0, _, 0, upd_same, hm.1, by omega⟩
      · refine ⟨_, rfl, 31, t, rfl, rfl, .inl (by decide), 104711, _, rfl, rfl, ?_⟩
        have hm := emod_in (m * 131 + (104711 + 31 * t) % 2147483549 * 6091 + 11) (n := 2147483629) (by decide)
        refine ⟨_, rfl, m, 131, rfl, rfl, .inl ⟨by omega, by omega⟩, _, rfl, .inl ⟨(104711 + 31 * t), rfl, (104711 + 31 * t), 2147483549, rfl, rfl, (by show (0 : Int) < 2147483549; decide), _, 6091, rfl, rfl, .inl ⟨by omega, by omega⟩, _, _, rfl, rfl, _, 11, rfl, rfl, .inl ⟨_, rfl, _, 2147483629, rfl, rfl, (by show (0 : Int) < 2147483629; decide), ?_⟩⟩⟩
        refine ⟨_, rfl, 10, 18, rfl, rfl, ⟨by decide, by decide, by decide⟩, (104711 + 31 * t), _, rfl, rfl, _, rfl, ?_⟩
        refine ite2 (fun _ => ?_) (fun _ => ?_)
        · refine ⟨_, rfl, _, rfl, (by show 3 ≤ sizeLine; decide), fun p np => ?_⟩
          exact q p _ (Same.free s1 np) (s1.trans (same_upd np)) ⟨(104711 + 31 * t), _, 0, upd_same, hm.1, by omega⟩
        · refine ⟨_, rfl, (by show 3 ≤ sizeLine; decide), fun p np => ?_⟩
          exact q p _ (Same.free s1 np) (s1.trans (same_upd np)) ⟨0, _, 0, upd_same, hm.1, by omega⟩
end
end K42

set_option Elab.async false
set_option linter.all false
set_option maxRecDepth 100000
set_option maxHeartbeats 4000000
namespace K42
open PySem PySem.Spec PyProof.Rows L2
/-! ### drawn numbers -/
theorem bd_mk {n : Int} {b c : Nat} (h : b * c = 84) (hn : n.natAbs ≤ 1000000000) : Bd (2 ^ 37) (mkRat n b) := by
  have hb : b ≠ 0 := by intro e; subst e; omega
  have hc : c ≤ 84 := Nat.le_of_dvd (by decide) ⟨b, by rw [Nat.mul_comm]; exact h.symm⟩
  refine ⟨(c : Int) * n, ?_, ?_⟩
  · have h1 : (84 : Rat) = mkRat 84 1 := by rfl
    have h2 : (((c : Int) * n : Int) : Rat) = mkRat ((c : Int) * n) 1 := by rw [Rat.mkRat_eq_div]; grind
    rw [h1, h2, Rat.mkRat_mul_mkRat, ← Rat.mkRat_mul_right (n := (c : Int) * n) (d := 1) hb]
    congr 1
    have h3 : (84 : Int) = (b : Int) * (c : Int) := by rw [← Int.natCast_mul, h]; rfl
    rw [h3]
    grind
  · rw [Int.natAbs_mul, Int.natAbs_natCast]
    have h4 : c * n.natAbs ≤ 84 * 1000000000 := Nat.mul_le_mul hc hn
    exact Nat.le_trans h4 (by decide)
theorem bd_mem {n x : Int} (hx : x ∈ ([1, 1, 1, 2, 2, 3, 4, 7] : List Int)) (hn : n.natAbs ≤ 1000000000) (n0 : n ≠ 0) : Bd (2 ^ 37) (mkRat n x.toNat) ∧ mkRat n x.toNat ≠ 0 ∧ 0 < x ∧ x.natAbs < 2 ^ 600 := by
  have h : x = 1 ∨ x = 2 ∨ x = 3 ∨ x = 4 ∨ x = 7 := by
    simp only [List.mem_cons, List.not_mem_nil, or_false] at hx
    omega
  have ne : ∀ {b : Nat}, b ≠ 0 → mkRat n b ≠ 0 := fun hb => (Rat.mkRat_ne_zero hb).mpr n0
  have sz : ∀ {b : Nat}, b ≤ 7 → b < 2 ^ 600 := fun hb => Nat.lt_of_le_of_lt hb (Nat.lt_of_lt_of_le (show 7 < 2 ^ 3 by decide) (Nat.pow_le_pow_right (by decide) (by decide)))
  rcases h with rfl | rfl | rfl | rfl | rfl
  · exact ⟨bd_mk (b := 1) (c := 84) rfl hn, ne (b := 1) (by decide), by decide, sz (b := 1) (by decide)⟩
  · exact ⟨bd_mk (b := 2) (c := 42) rfl hn, ne (b := 2) (by decide), by decide, sz (b := 2) (by decide)⟩
  · exact ⟨bd_mk (b := 3) (c := 28) rfl hn, ne (b := 3) (by decide), by decide, sz (b := 3) (by decide)⟩
  · exact ⟨bd_mk (b := 4) (c := 21) rfl hn, ne (b := 4) (by decide), by decide, sz (b := 4) (by decide)⟩
  · exact ⟨bd_mk (b := 7) (c := 12) rfl hn, ne (b := 7) (by decide), by decide, sz (b := 7) (by decide)⟩
def spNumber (K : PySem.W.Frag) : Sp := fun vs H Q _ => ∃ w : Addr, vs = [.ref w] ∧ Well H w ∧ ∀ v H' q, Kp w H H' → Well H' w → Fr K H' v q → q ≠ 0 → Bd (2 ^ 37) q → Q v H'
theorem Kp.upd_new {w p : Addr} {H H1 : Hp} {o : HO} (k : Kp w H H1) (h : H1 p = none) : Kp w H (L2.upd H1 p o) := k.trans (Kp.of (same_upd h))
section
variable {P : Program} {w : World} {K : PySem.W.Frag} {mg : Str → Option Value} {base : Heap}
theorem ok42 (T : Tops K mg) : FnOk P w K mg base CX0 3 (T.fa 42) (T.fd 42) ["_law_well_here"] (spNumber K) := by
  refine T.d42.F.ok sc42 (fun vs H Q E h => ?_) (fun cdv A outer s H vs Q E hr h => ?_)
  · obtain ⟨_, rfl, _⟩ := h
    rfl
  · obtain ⟨w, rfl, hw, q⟩ := h
    have hr1 := hr.mono (show 1 ≤ 2 by decide)
    refine ⟨_, pss_cons (ps_set (i := 1) sc42.nd rfl (.inl rfl) (pe_ifExp (pt_cmpR op_gt (pe_callD T.d29 (ok29 T) hr1 (pa_cons (pv 0) (pa_cons pe_int pa_nil))) pe_int (nomark _))
        (pe_op op_add pe_int (pe_callD T.d29 (ok29 T) hr1 (pa_cons (pv 0) (pa_cons pe_int pa_nil)))) (pe_op op_add pe_int (pe_callD T.d29 (ok29 T) hr1 (pa_cons (pv 0) (pa_cons (pe_op op_pow pe_int pe_int) pa_nil))))))
      (pss_cons (ps_set (i := 2) sc42.nd rfl (.inl rfl) (pe_callD T.d30 (ok30 T) hr (pa_cons (pv 0) (pa_cons (pe_tup (pa_cons pe_int (pa_cons pe_int (pa_cons pe_int (pa_cons pe_int (pa_cons pe_int (pa_cons pe_int (pa_cons pe_int (pa_cons pe_int pa_nil))))))))) pa_nil))))
      (pss_one (ps_ret (pe_callD T.d33 (ok33 T) hr (pa_cons (pe_ifExp (pt_cmpR op_eq (pe_callD T.d29 (ok29 T) hr1 (pa_cons (pv 0) (pa_cons pe_int pa_nil))) pe_int (nomark _)) (pv 1) (pe_op op_sub pe_int (pv 1))) (pa_cons (pv 2) pa_nil)))))), ?_⟩
    refine ⟨_, rfl, w, 8, rfl, hw, ⟨by decide, by decide⟩, fun r1 H1 _ _ hw1 k1 => ⟨_, _, rfl, rfl, _, rfl, ?_⟩⟩
    refine ite2 (fun _ => ?_) (fun _ => ?_)
    · refine ⟨_, rfl, w, 5, rfl, hw1, ⟨by decide, by decide⟩, fun r2 H2 r20 r21 hw2 k2 => ⟨1, r2, rfl, rfl, _, rfl, ?_⟩⟩
      refine ⟨(by show 8 ≤ sizeLine; decide), fun t nt => ⟨w, t, [1, 1, 1, 2, 2, 3, 4, 7], rfl, hw2.same (same_upd nt), SqT.of upd_same, by decide, by decide, fun x hx H3 hw3 k3 => ?_⟩⟩
      have kk3 : Kp w H H3 := ((k1.trans k2).upd_new nt).trans k3
      refine ⟨_, rfl, w, 2, rfl, hw3, ⟨by decide, by decide⟩, fun r4 H4 _ _ hw4 k4 => ⟨rfl, _, rfl, ?_⟩⟩
      refine ite2 (fun _ => ?_) (fun _ => ?_)
      · obtain ⟨b1, b2, b3, b4⟩ := bd_mem (n := 1 + r2) hx (by omega) (by omega)
        exact ⟨_, rfl, _, rfl, 1 + r2, x, rfl, ⟨b3, b4⟩, fun v H5 s5 f5 => q v H5 _ ((kk3.trans k4).trans (Kp.of s5)) (hw4.same s5) f5 b2 b1⟩
      · obtain ⟨b1, b2, b3, b4⟩ := bd_mem (n := 0 - (1 + r2)) hx (by omega) (by omega)
        exact ⟨_, rfl, 0, _, rfl, rfl, _, rfl, 0 - (1 + r2), x, rfl, ⟨b3, b4⟩, fun v H5 s5 f5 => q v H5 _ ((kk3.trans k4).trans (Kp.of s5)) (hw4.same s5) f5 b2 b1⟩
    · refine ⟨_, rfl, 10, 9, rfl, rfl, ⟨by decide, by decide, by decide⟩, w, 10 ^ (9 : Int).toNat, rfl, hw1, ⟨by decide, by decide⟩, fun r2 H2 r20 r21 hw2 k2 => ⟨1, r2, rfl, rfl, _, rfl, ?_⟩⟩
      have r22 : r2 < 1000000000 := r21
      refine ⟨(by show 8 ≤ sizeLine; decide), fun t nt => ⟨w, t, [1, 1, 1, 2, 2, 3, 4, 7], rfl, hw2.same (same_upd nt), SqT.of upd_same, by decide, by decide, fun x hx H3 hw3 k3 => ?_⟩⟩
      have kk3 : Kp w H H3 := ((k1.trans k2).upd_new nt).trans k3
      refine ⟨_, rfl, w, 2, rfl, hw3, ⟨by decide, by decide⟩, fun r4 H4 _ _ hw4 k4 => ⟨rfl, _, rfl, ?_⟩⟩
      refine ite2 (fun _ => ?_) (fun _ => ?_)
      · obtain ⟨b1, b2, b3, b4⟩ := bd_mem (n := 1 + r2) hx (by omega) (by omega)
        exact ⟨_, rfl, _, rfl, 1 + r2, x, rfl, ⟨b3, b4⟩, fun v H5 s5 f5 => q v H5 _ ((kk3.trans k4).trans (Kp.of s5)) (hw4.same s5) f5 b2 b1⟩
      · obtain ⟨b1, b2, b3, b4⟩ := bd_mem (n := 0 - (1 + r2)) hx (by omega) (by omega)
        exact ⟨_, rfl, 0, _, rfl, rfl, _, rfl, 0 - (1 + r2), x, rfl, ⟨b3, b4⟩, fun v H5 s5 f5 => q v H5 _ ((kk3.trans k4).trans (Kp.of s5)) (hw4.same s5) f5 b2 b1⟩
/-! ### a drawn lot -/
theorem Prs.kp {K : PySem.W.Frag} {w : Addr} {H H' : Hp} {D : Addr} {Z : List (Addr × V × Int × Rat)} {ys : List V} (h : Prs K H D Z) (k : Kp w H H') (hw : H w = some (.lst ys)) (ne : D ≠ w) : Prs K H' D Z :=
  ⟨k _ _ h.at_ ne, fun z hz => k.tup hw (h.tup z hz), fun z hz => (h.fr z hz).kp k hw⟩
theorem SqL.kp {K : PySem.W.Frag} {w a : Addr} {H H' : Hp} {xs : List V} (k : Kp w H H') (ne : a ≠ w) (h : SqL K H a xs) : SqL K H' a xs := by
  rcases h with (h | ⟨o, h⟩) | h
  · exact .inl (.inl (k _ _ h ne))
  · exact .inl (.inr ⟨o, k _ _ h ne⟩)
  · exact .inr h
def spDraw (K : PySem.W.Frag) : Sp := fun vs H Q _ => ∃ (w : Addr) (n : Int), vs = [.ref w, .int n] ∧ Well H w ∧ (0 < n ∧ n ≤ 5) ∧ ∀ d H' L, Kp w H H' → Well H' w → Lot K H' d L → LOk (2 ^ 37) 5 710 L → Q (.ref d) H'
theorem draw_nd {f l : Int} {ms : List Int} (nd : ms.Nodup) (h : ∀ x ∈ ms, f < x ∧ x < f + l - 1) (hl : 1 ≤ l) : (f :: (ms ++ (if l > 1 then [f + l - 1] else []))).Nodup := by
  rw [List.nodup_cons]
  refine ⟨fun hm => ?_, ?_⟩
  · rcases List.mem_append.mp hm with hm | hm
    · have := h _ hm
      omega
    · split at hm
      · have := List.mem_singleton.mp hm
        omega
      · cases hm
  · rw [List.nodup_append]
    refine ⟨nd, by split <;> simp, fun a ha b hb e => ?_⟩
    have := h a ha
    split at hb
    · have := List.mem_singleton.mp hb
      omega
    · cases hb
theorem ok43 (T : Tops K mg) : FnOk P w K mg base CX0 4 (T.fa 43) (T.fd 43) ["_law_well_here", "_law_most"] (spDraw K) := by
  refine T.d43.F.ok sc43 (fun vs H Q E h => ?_) (fun cdv A outer s H vs Q E hr h => ?_)
  · obtain ⟨_, _, rfl, _⟩ := h
    rfl
  · obtain ⟨w, n, rfl, hw, ⟨n0, n1⟩, q⟩ := h
    have hr1 := hr.mono (show 1 ≤ 3 by decide)
    have hr2 := hr.mono (show 2 ≤ 3 by decide)
    refine ⟨_, pss_cons (ps_par (i := 2) (j := 3) (by rfl) sc43.nd rfl rfl (by decide) rfl rfl (pa_cons (pe_callD T.d30 (ok30 T) hr2 (pa_cons (pv 0) (pa_cons (pe_tup (pa_cons pe_int (pa_cons pe_int (pa_cons pe_int (pa_cons pe_int (pa_cons (pe_un un_neg pe_int) (pa_cons pe_int (pa_cons (pe_un un_neg pe_int) (pa_cons pe_int (pa_cons (pe_un un_neg pe_int) (pa_cons pe_int pa_nil))))))))))) pa_nil)))
        (pa_cons (pe_op op_add pe_int (pe_callD T.d29 (ok29 T) hr1 (pa_cons (pv 0) (pa_cons (pv 1) pa_nil)))) pa_nil)) (by rfl))
      (pss_cons (ps_setLc (i := 4) (own := [("_law_k", 5)]) (g := gName 5) (by rfl) sc43.nd rfl rfl (sw_true rfl rfl rfl (by decide +kernel)) (pi_range2 (by rfl) T.z_range (pa_cons (pe_op op_add (pv 2) pe_int) (pa_cons (pe_op op_sub (pe_op op_add (pv 2) (pv 3)) pe_int) pa_nil)))
          (blkOk_by (N := ["_law_well_here", "_law_most", "_law_first", "_law_length", "_law_inner", "_law_k"]) (sc := defScope s43) (by decide +kernel)) (fun _ _ _ _ _ => pg_name (i := 5) sc43.nd rfl (Or.inl rfl))
          (fun _ _ _ _ _ => pts_one (pt_cmpR op_gt (pe_callD T.d29 (ok29 T) hr1 (pa_cons (pv 0) (pa_cons pe_int pa_nil))) pe_int (nomark _))) (fun _ _ _ _ _ => pv 5))
      (pss_one (ps_ret (pe_callTy (call_dictP rfl) (by rfl) T.z_dict boot_dict (pa_cons (pe_lc (own := [("_law_k", 5)]) (g := gName 5) (tt := tYes) (by rfl) sc43.nd
          (pi_list (pe_op op_cat (pe_op op_cat (pe_lst (pa_cons (pv 2) pa_nil)) (pv 4)) (pe_ifExp (pt_cmpR op_gt (pv 3) pe_int (nomark _)) (pe_lst (pa_cons (pe_op op_sub (pe_op op_add (pv 2) (pv 3)) pe_int) pa_nil)) (pe_lst pa_nil))))
          (blkOk_by (N := ["_law_well_here", "_law_most", "_law_first", "_law_length", "_law_inner", "_law_k"]) (sc := defScope s43) (by decide +kernel)) (fun _ _ _ _ _ => pg_name (i := 5) sc43.nd rfl (Or.inl rfl)) (fun _ _ _ _ _ => pts_nil)
          (fun _ _ _ _ _ => pe_tup (pa_cons (pv 5) (pa_cons (pe_callD T.d42 (ok42 T) hr (pa_cons (pv 0) pa_nil)) pa_nil)))) pa_nil))))), ?_⟩
    obtain ⟨wa, wb, wc, ew, _⟩ := id hw
    refine ⟨_, rfl, 1, rfl, 3, rfl, 700, rfl, (by show 10 ≤ sizeLine; decide), fun t nt => ⟨w, t, [0, 0, 0, 1, -1, 2, -3, 4, -700, 650], rfl, hw.same (same_upd nt), SqT.of upd_same, by decide, by decide, fun f hf H1 hw1 k1 => ?_⟩⟩
    have hf' : -700 ≤ f ∧ f ≤ 650 := by
      simp only [List.mem_cons, List.not_mem_nil, or_false] at hf
      omega
    have kk1 : Kp w H H1 := (Kp.of (same_upd nt)).trans k1
    refine ⟨_, rfl, _, rfl, w, n, rfl, hw1, ⟨n0, by omega⟩, fun r H2 r0 r1 hw2 k2 => ⟨1, r, rfl, rfl, _, _, rfl, ?_⟩⟩
    have kk2 : Kp w H H2 := kk1.trans k2
    obtain ⟨wa2, wb2, wc2, ew2, _⟩ := id hw2
    -- inner
    refine ⟨_, rfl, f, 1, rfl, rfl, _, rfl, _, rfl, f, 1 + r, rfl, rfl, _, 1, rfl, rfl, f + 1, f + (1 + r) - 1, rfl, ⟨by omega, by omega, by omega, by omega⟩, fun D nD => ?_⟩
    have hDw : D ≠ w := fun e => by rw [e, ew2] at nD; cases nD
    have nDH : H D = none := by
      cases e : H D with
      | none => rfl
      | some o =>
        rw [kk2 _ _ e hDw] at nD
        cases nD
    refine lc_it (walk_range (lo := f + 1) (n := (f + (1 + r) - 1 - (f + 1)).toNat)) (fun i H3 => Kp w H H3 ∧ Well H3 w ∧ ∃ ms : List Int, H3 D = some (.lst (ms.map V.int)) ∧ ms.length ≤ i ∧ ms.Nodup ∧ ∀ x ∈ ms, f < x ∧ x < f + 1 + i)
      ⟨kk2.upd_new nD, hw2.same (same_upd nD), [], upd_same, Nat.le_refl _, List.nodup_nil, fun x hx => absurd hx List.not_mem_nil⟩ (fun _ _ _ _ => trivial) ?_ ?_
    · rintro i x H3 H4 hi ⟨k3, hw3, ms, hD, hml, hmn, hmb⟩ ⟨rfl, rfl⟩
      refine ⟨rfl, _, rfl, w, 4, rfl, hw3, ⟨by decide, by decide⟩, fun r4 H5 _ _ hw5 k5 => ⟨_, _, rfl, rfl, _, rfl, ?_⟩⟩
      have hD5 : H5 D = some (.lst (ms.map V.int)) := k5 _ _ hD hDw
      refine ite2 (fun h4 => ?_) (fun h4 => ?_)
      · refine ⟨_, rfl, _, hD5, small500 (by rw [List.length_map]; omega), fun b o e nb => ?_, ?_, ms ++ [f + 1 + (i : Int)], ?_, ?_, ?_, ?_⟩
        · rw [upd_ne (ne_of_none e nDH)]
          exact k5 _ _ (k3 _ _ e nb) nb
        · obtain ⟨x1, x2, x3, e5, y1⟩ := hw5
          exact ⟨x1, x2, x3, by rw [upd_ne hDw.symm]; exact e5, y1⟩
        · rw [upd_same, List.map_append]
          rfl
        · rw [List.length_append]
          simp
          omega
        · rw [List.nodup_append]
          refine ⟨hmn, by simp, fun a ha b hb e => ?_⟩
          have h5 := hmb a ha
          have h6 := List.mem_singleton.mp hb
          omega
        · intro y hy
          rcases List.mem_append.mp hy with hy | hy
          · have h5 := hmb y hy
            omega
          · have h6 := List.mem_singleton.mp hy
            omega
      · refine ⟨k3.trans k5, hw5, ms, hD5, by omega, hmn, fun y hy => ?_⟩
        have h5 := hmb y hy
        omega
    · rintro H3 ⟨k3, hw3, ms, hD, hml, hmn, hmb⟩
      -- [first] + inner + [last]
      refine ⟨_, rfl, (by show 1 ≤ sizeLine; decide), fun c1 nc1 => ⟨_, rfl, c1, D, [.int f], ms.map V.int, rfl, rfl, upd_same, same_upd nc1 _ _ hD, ?_, fun c2 nc2 => ?_⟩⟩
      · show 1 + (ms.map V.int).length ≤ sizeLine
        rw [List.length_map]
        exact Nat.le_of_lt (small500 (by omega))
      have s1 := same_upd (o := .lst [.int f]) nc1
      have s2 := same_upd (o := .lst ([.int f] ++ ms.map V.int)) nc2
      have hlast : ∀ H5 c5 (tl : List Int), Same (upd (upd H3 c1 (.lst [.int f])) c2 (.lst ([.int f] ++ ms.map V.int))) H5 → H5 c5 = some (.lst (tl.map V.int)) → tl = (if (1 + r) > 1 then [f + (1 + r) - 1] else []) →
          ∃ xs zs, H5 c2 = some (.lst xs) ∧ H5 c5 = some (.lst zs) ∧ xs.length + zs.length ≤ sizeLine ∧ ∀ p, H5 p = none → ∃ ks : List Int, Same H3 (upd H5 p (.lst (xs ++ zs))) ∧ Well (upd H5 p (.lst (xs ++ zs))) w ∧ (upd H5 p (.lst (xs ++ zs))) p = some (.lst (ks.map V.int)) ∧ p ≠ w ∧ ks.Nodup ∧ (∀ k ∈ ks, k.natAbs ≤ 710) ∧ ks.length ≤ 5 := by
        intro H5 c5 tl s5 e5 etl
        have hl1 : tl.length ≤ 1 := by rw [etl]; split <;> simp
        refine ⟨[.int f] ++ ms.map V.int, tl.map V.int, s5 _ _ upd_same, e5, ?_, fun p np => ?_⟩
        · rw [List.length_append, List.length_map, List.length_map]
          exact Nat.le_of_lt (small500 (by show 1 + ms.length + tl.length ≤ 500; omega))
        · have hb5 : ∀ x ∈ ms, f < x ∧ x < f + (1 + r) - 1 := by
            intro x hx
            have := hmb x hx
            omega
          have s6 : Same H3 (upd H5 p (.lst (([.int f] ++ ms.map V.int) ++ tl.map V.int))) := ((s1.trans s2).trans s5).trans (same_upd np)
          have hpw : p ≠ w := fun e => by
            obtain ⟨y1, y2, y3, y4, _⟩ := hw3
            rw [e, s5 _ _ (s2 _ _ (s1 _ _ y4))] at np
            cases np
          refine ⟨f :: (ms ++ tl), s6, hw3.same s6, ?_, hpw, ?_, ?_, ?_⟩
          · rw [upd_same, List.map_cons, List.map_append]
            rfl
          · rw [etl]
            exact draw_nd hmn hb5 (by omega)
          · intro k hk
            rcases List.mem_cons.mp hk with rfl | hk
            · omega
            · rcases List.mem_append.mp hk with hk | hk
              · have := hb5 k hk
                omega
              · rw [etl] at hk
                split at hk
                · have := List.mem_singleton.mp hk
                  omega
                · cases hk
          · rw [List.length_cons, List.length_append]
            rw [etl]
            split
            · simp
              omega
            · simp
              omega
      -- the dict of the pairs
      have hdict : ∀ c6 H6 (ks : List Int), Same H3 H6 → Well H6 w → H6 c6 = some (.lst (ks.map V.int)) → c6 ≠ w → ks.Nodup → (∀ k ∈ ks, k.natAbs ≤ 710) → ks.length ≤ 5 →
          tLc (fun _ H R => (∃ xs, SqL K H c6 xs) ∧ R (Itl K c6) H) (gName 5) tYes (tTup (tCons (tVar 5) (tCons (tCall (spNumber K) [] E0 (tCons (tVar 0) tNil)) tNil))) [5]
            [some (.ref w), some (.int n), some (.int f), some (.int (1 + r)), some (.ref D), none] H6 (fun x H1 => ∃ (a : Addr) (ps : List Addr) (kvs : List (Key × V)), [x] = [V.ref a] ∧ SqL K H1 a (ps.map V.ref) ∧ Paired (fun p kv => SqT K H1 p [kV kv.1, kv.2]) ps kvs ∧ ∀ p, H1 p = none → Q (.ref p) (upd H1 p (.dK (mergeK [] kvs)))) := by
        intro c6 H6 ks s6 hw6 h6 nc6 hkn hkb hkl
        refine ⟨⟨_, SqL.of h6⟩, fun E0' nE => ?_⟩
        obtain ⟨y1, y2, y3, y4, _⟩ := id hw6
        have nEw : E0' ≠ w := fun e => by rw [e, y4] at nE; cases nE
        have k6 : Kp w H H6 := k3.trans (Kp.of s6)
        have nEH : H E0' = none := by
          cases e : H E0' with
          | none => rfl
          | some o =>
            rw [k6 _ _ e nEw] at nE
            cases nE
        refine lc_itY (walk_list (K := K) (a := c6) (xs := ks.map V.int)) (fun i H7 => Kp w H H7 ∧ Well H7 w ∧ H7 c6 = some (.lst (ks.map V.int)) ∧ ∃ Z, Prs K H7 E0' Z ∧ (Z.map (·.2.2)).map (·.1) = ks.take i ∧ ∀ z ∈ Z, z.2.2.2 ≠ 0 ∧ Bd (2 ^ 37) z.2.2.2)
          ⟨k6.upd_new nE, hw6.same (same_upd nE), same_upd nE _ _ h6, [], ⟨upd_same, fun z hz => absurd hz List.not_mem_nil, fun z hz => absurd hz List.not_mem_nil⟩, rfl, fun z hz => absurd hz List.not_mem_nil⟩ (fun _ _ _ h => SqL.of h.2.2.1) ?_ ?_
        · rintro i x H7 H8 hi ⟨k7, hw7, h7, Z, hZ, eZ, bZ⟩ ⟨rfl, hx⟩
          rw [List.getElem?_map] at hx
          obtain ⟨k, hk, ek⟩ : ∃ k, ks[i]? = some k ∧ x = .int k := by
            cases e : ks[i]? with
            | none => rw [e] at hx; cases hx
            | some k => rw [e] at hx; cases hx; exact ⟨k, rfl, rfl⟩
          subst ek
          obtain ⟨x1, x2, x3, x4, _⟩ := id hw7
          refine ⟨rfl, _, rfl, _, rfl, w, rfl, hw7, fun v H9 q9 k9 hw9 f9 n9 b9 => ⟨(by show 2 ≤ sizeLine; decide), fun t9 nt9 => ?_⟩⟩
          have s9 := same_upd (o := .tup [.int k, v]) nt9
          have hZ9 := (hZ.kp k9 x4 nEw).same s9
          have hZl : Z.length ≤ 5 := by
            have := congrArg List.length eZ
            simp only [List.length_map, List.length_take] at this
            omega
          refine ⟨_, hZ9.at_, small500 (by rw [List.length_map]; omega), fun b o e nb => ?_, ?_, ?_, Z ++ [(t9, v, k, q9)], hZ9.snoc (SqT.of upd_same) (f9.same s9), ?_, ?_⟩
          · rw [upd_ne (ne_of_none e nEH)]
            exact s9 _ _ (k9 _ _ (k7 _ _ e nb) nb)
          · obtain ⟨z1, z2, z3, z4, z5⟩ := hw9.same s9
            exact ⟨z1, z2, z3, by rw [upd_ne nEw.symm]; exact z4, z5⟩
          · rw [upd_ne (ne_of_none h6 nE)]
            exact s9 _ _ (k9 _ _ h7 nc6)
          · rw [take_snoc hk, List.map_append, List.map_append, eZ]
            rfl
          · intro z hz
            rcases List.mem_append.mp hz with hz | hz
            · exact bZ z hz
            · rw [List.mem_singleton.mp hz]
              exact ⟨n9, b9⟩
        · rintro H7 ⟨k7, hw7, h7, Z, hZ, eZ, bZ⟩
          rw [List.take_of_length_le (by rw [List.length_map]; exact Nat.le_refl _)] at eZ
          refine hZ.dict (by rw [eZ]; exact hkn) fun d' nd' hL => ?_
          refine q d' _ (Z.map (·.2.2)) (k7.upd_new nd') (hw7.same (same_upd nd')) ⟨_, hL, (zmap Z).symm⟩ ⟨by rw [eZ]; exact hkn, ?_, ?_, ?_, ?_⟩
          · intro p hp
            obtain ⟨z, hz, rfl⟩ := List.mem_map.mp hp
            exact (bZ z hz).1
          · intro p hp
            obtain ⟨z, hz, rfl⟩ := List.mem_map.mp hp
            exact (bZ z hz).2
          · intro p hp
            exact hkb _ (by rw [← eZ]; exact List.mem_map.mpr ⟨p, hp, rfl⟩)
          · have := congrArg List.length eZ
            simp only [List.length_map] at this ⊢
            omega
      refine ⟨_, rfl, 1 + r, 1, rfl, rfl, _, rfl, ?_⟩
      refine ite2 (fun h5 => ?_) (fun h5 => ?_)
      · have h5' : 1 + r > 1 := of_decide_eq_true h5
        refine ⟨_, rfl, _, rfl, f, 1 + r, rfl, rfl, _, 1, rfl, rfl, (by show 1 ≤ sizeLine; decide), fun c5 nc5 => ?_⟩
        obtain ⟨xs, zs, g1, g2, g3, g4⟩ := hlast _ c5 [f + (1 + r) - 1] (same_upd nc5) upd_same (by rw [if_pos h5'])
        refine ⟨c2, c5, xs, zs, rfl, rfl, g1, g2, g3, fun p np => ?_⟩
        obtain ⟨ks, a1, a2, a3, a4, a5, a6, a7⟩ := g4 p np
        exact ⟨p, rfl, hdict p _ ks a1 a2 a3 a4 a5 a6 a7⟩
      · have h5' : ¬ 1 + r > 1 := fun z => h5 (decide_eq_true z)
        refine ⟨(by show 0 ≤ sizeLine; decide), fun c5 nc5 => ?_⟩
        obtain ⟨xs, zs, g1, g2, g3, g4⟩ := hlast _ c5 [] (same_upd nc5) upd_same (by rw [if_neg h5'])
        refine ⟨c2, c5, xs, zs, rfl, rfl, g1, g2, g3, fun p np => ?_⟩
        obtain ⟨ks, a1, a2, a3, a4, a5, a6, a7⟩ := g4 p np
        exact ⟨p, rfl, hdict p _ ks a1 a2 a3 a4 a5 a6 a7⟩
end
end K42

set_option Elab.async false
set_option linter.all false
set_option maxRecDepth 100000
set_option maxHeartbeats 4000000
namespace K42
open PySem PySem.Spec PyProof.Rows L2
theorem ints_at {ns : List Int} {i : Nat} {n : Int} (h : ns[i]? = some n) {k : Int} (hk : k = (i : Int)) : atI (ns.map V.int) k = some (.int n) := by
  subst hk
  exact atI_nat (by rw [List.getElem?_map, h]; rfl)
theorem getD_at {ns : List Int} {i : Nat} (h : i < ns.length) : ns[i]? = some (ns.getD i 0) := by
  rw [List.getD_eq_getElem?_getD, List.getElem?_eq_getElem h]
  rfl
structure LotIn (L : L1) : Prop where
  bd : ∀ p ∈ L, Bd (2 ^ 40) p.2
  pl : ∀ p ∈ L, p.1.natAbs ≤ 1000
  len : L.length ≤ 500
def spChoices : Sp := fun vs H Q _ => ∃ j : Nat, vs = [.int (j : Int)] ∧ j ≤ 8 ∧ ∀ p H', Same H H' → H' p = some (.lst ((row j).map V.int)) → Q (.ref p) H'
def spPoly (K : PySem.W.Frag) : Sp := fun vs H Q _ => ∃ d L, ∃ j : Nat, vs = [.ref d, .int (j : Int)] ∧ Lot K H d L ∧ LotIn L ∧ j ≤ 8 ∧ ∀ v H', Same H H' → Tup K H' v (trim (due L j)) → Q v H'
def spMade (K : PySem.W.Frag) : Sp := fun vs H Q _ => ∃ d L n, ∃ j : Nat, vs = [.ref d, .int n, .int (j : Int)] ∧ Lot K H d L ∧ LotIn L ∧ n.natAbs ≤ 1000 ∧ j ≤ 8 ∧ ∀ v H', Same H H' → Fr K H' v (made L n j) → Q v H'
def spWorth (K : PySem.W.Frag) : Sp := fun vs H Q _ => ∃ v c n, vs = [v, .int n] ∧ Tup K H v c ∧ (∀ q ∈ c, Bd (2 ^ 155) q) ∧ c.length ≤ 9 ∧ n.natAbs ≤ 1000 ∧ ∀ u H', Same H H' → Fr K H' u (worth c n) → Q u H'
theorem pow_le10 {b : Int} (h : b.natAbs ≤ 1000) {i : Nat} (hi : i ≤ 8) : (b ^ i).natAbs ≤ 2 ^ 80 := by
  rw [Int.natAbs_pow]
  have h1 : b.natAbs ^ i ≤ 1024 ^ i := Nat.pow_le_pow_left (by omega) i
  have h2 : 1024 ^ i ≤ 1024 ^ 8 := Nat.pow_le_pow_right (by decide) hi
  have h3 : 1024 ^ 8 = 2 ^ 80 := by decide
  omega
/-- one place's share of a sum -/
def shr (n : Int) (j : Nat) (p : Int × Rat) : Rat := p.2 * (((n - p.1) ^ j : Int) : Rat)
theorem shr_bd {L : L1} (h : LotIn L) {n : Int} (hn : n.natAbs ≤ 1000) {j : Nat} (hj : j ≤ 8) : ∀ x ∈ L.map (shr n j), Bd (2 ^ 136) x := by
  intro x hx
  obtain ⟨p, hp, rfl⟩ := List.mem_map.mp hx
  have := h.pl p hp
  exact ((h.bd p hp).mulInt _ (pow_le (by omega) hj)).mono (by decide)
theorem made_eq (L : L1) (n : Int) (j : Nat) : tot (L.map (shr n j)) = made L n j := rfl
theorem made_bd {L : L1} (h : LotIn L) {n : Int} (hn : n.natAbs ≤ 1000) {j : Nat} (hj : j ≤ 8) : Bd (2 ^ 146) (made L n j) := by
  rw [← made_eq]
  refine (tot_bd (shr_bd h hn hj)).mono ?_
  rw [List.length_map]
  have h2 : L.length * 2 ^ 136 ≤ 500 * 2 ^ 136 := Nat.mul_le_mul_right _ h.len
  exact Nat.le_trans h2 (by decide)
theorem due_at {L : L1} {j i : Nat} {c : Int} (h : (row j)[i]? = some c) : (due L j)[i]? = some (made L 0 (j - i) * (c : Rat)) := by
  unfold due
  rw [List.getElem?_map, List.getElem?_zipIdx, h]
  simp
theorem worth_at {c : List Rat} {n : Int} {i : Nat} {q : Rat} (h : c[i]? = some q) : (c.zipIdx.map fun p : Rat × Nat => p.1 * ((n ^ p.2 : Int) : Rat))[i]? = some (q * ((n ^ i : Int) : Rat)) := by
  rw [List.getElem?_map, List.getElem?_zipIdx, h]
  simp
section
variable {P : Program} {w : World} {K : PySem.W.Frag} {mg : Str → Option Value} {base : Heap}
theorem ok46 (T : Tops K mg) : FnOk P w K mg base CX0 1 (T.fa 46) (T.fd 46) ["_law_j"] spChoices := by
  refine T.d46.F.ok sc46 (fun vs H Q E h => ?_) (fun cdv A outer s H vs Q E hr h => ?_)
  · obtain ⟨_, rfl, _⟩ := h
    rfl
  · obtain ⟨j, rfl, hj, q⟩ := h
    refine ⟨_, pss_cons (ps_set (i := 1) sc46.nd rfl (.inr rfl) (pe_lst (pa_cons pe_int pa_nil)))
      (pss_cons (ps_for PassesOwn.never rfl (pi_range1 (by rfl) T.z_range (pa_cons (pv 0) pa_nil)) (pg_name (i := 2) sc46.nd rfl (.inl rfl))
        (pss_one (ps_set (i := 1) sc46.nd rfl (.inr rfl) (pe_op op_cat (pe_op op_cat (pe_lst (pa_cons pe_int pa_nil))
          (pe_lc (own := [("_law_k", 3)]) (g := gName 3) (tt := tYes) (by rfl) sc46.nd (pi_range1 (by rfl) T.z_range (pa_cons (pe_op op_sub (pe_callB call_len_seq (by rfl) T.z_len boot_len (pa_cons (pv 1) pa_nil)) pe_int) pa_nil))
            (blkOk_by (N := ["_law_j", "_law_found", "_law_turn", "_law_k"]) (sc := defScope s46) (by decide +kernel)) (fun _ _ _ _ _ => pg_name (i := 3) sc46.nd rfl (Or.inl rfl)) (fun _ _ _ _ _ => pts_nil)
            (fun _ _ _ _ _ => pe_op op_add (pk_ixL (K := K) rfl (pv 1) (pv 3) (fun _ _ => rfl)) (pk_ixL (K := K) rfl (pv 1) (pe_op op_add (pv 3) pe_int) (fun _ _ => rfl))))) (pe_lst (pa_cons pe_int pa_nil))))))
      (pss_one (ps_ret (pv 1)))), ?_⟩
    refine ⟨(by show 1 ≤ sizeLine; decide), fun f0 nf0 => ⟨_, rfl, (j : Int), rfl, by omega, by omega, ?_⟩⟩
    rw [Int.toNat_natCast]
    refine for_range (lo := 0) (n := j) (fun i σ H1 => Same H H1 ∧ ∃ f c, σ = [some (.int (j : Int)), some (.ref f), c, none] ∧ H1 f = some (.lst ((row i).map V.int))) ⟨same_upd nf0, f0, none, rfl, upd_same⟩ ?_ ?_
    · rintro i σ H1 hi ⟨s1, f, c, rfl, hf⟩
      have hlr : (row i).length = i + 1 := row_len i (by omega)
      refine ⟨(by show 1 ≤ sizeLine; decide), fun c1 nc1 => ?_⟩
      have s2 := same_upd (o := .lst [.int 1]) nc1
      refine ⟨_, rfl, f, _, rfl, .inl (SqL.of (s2 _ _ hf)), _, 1, rfl, rfl, ((i : Nat) : Int), ?_, by omega, by omega, fun D nD => ?_⟩
      · show [V.int (((row i).map V.int).length - 1 : Int)] = _
        rw [List.length_map, hlr]
        congr 2
        omega
      have s3 := same_upd (o := .lst []) nD
      rw [Int.toNat_natCast]
      have nc1D : c1 ≠ D := fun e => by rw [← e, upd_same] at nD; cases nD
      refine lc_itY (walk_range (lo := 0) (n := i)) (fun i' H3 => Same (upd H1 c1 (.lst [.int 1])) H3 ∧ H3 D = some (.lst ((((List.range i).map fun k => (row i).getD k 0 + (row i).getD (k + 1) 0).take i').map V.int))) ⟨s3, by rw [upd_same]; rfl⟩ (fun _ _ _ _ => trivial) ?_ ?_
      · rintro i' x H3 H4 hi' ⟨s4, hD⟩ ⟨rfl, rfl⟩
        have hf4 : H4 f = some (.lst ((row i).map V.int)) := s4 _ _ (s2 _ _ hf)
        have g1 := getD_at (ns := row i) (i := i') (by omega)
        have g2 := getD_at (ns := row i) (i := i' + 1) (by omega)
        refine ⟨rfl, _, rfl, _, rfl, f, _, _, _, rfl, rfl, SqL.of hf4, ints_at g1 (Int.zero_add _), _, rfl, _, rfl, _, 1, rfl, rfl, f, _, _, _, rfl, rfl, SqL.of hf4, ints_at g2 (by omega), _, _, rfl, rfl, ?_⟩
        refine ⟨_, hD, small500 (by simp; omega), fun b o e => ?_, ?_⟩
        · by_cases hb : b = D
          · subst hb
            rw [e] at nD
            cases nD
          · rw [upd_ne hb]
            exact s4 _ _ e
        · rw [upd_same, take_snoc (l := (List.range i).map fun k => (row i).getD k 0 + (row i).getD (k + 1) 0) (x := (row i).getD i' 0 + (row i).getD (i' + 1) 0) (by rw [List.getElem?_map, List.getElem?_range hi']; rfl), List.map_append]
          rfl
      · rintro H3 ⟨s4, hD⟩
        rw [List.take_of_length_le (by simp)] at hD
        refine ⟨c1, D, _, _, rfl, rfl, s4 _ _ upd_same, hD, ?_, fun c2 nc2 => ⟨(by show 1 ≤ sizeLine; decide), fun c3 nc3 => ?_⟩⟩
        · rw [List.length_map, List.length_map, List.length_range]
          exact Nat.le_of_lt (small500 (by show 1 + i ≤ 500; omega))
        have s5 := same_upd (o := .lst ([.int 1] ++ ((List.range i).map fun k => (row i).getD k 0 + (row i).getD (k + 1) 0).map V.int)) nc2
        have s6 := same_upd (o := .lst [.int 1]) nc3
        refine ⟨c2, c3, _, _, rfl, rfl, s6 _ _ upd_same, upd_same, ?_, fun c4 nc4 => ?_⟩
        · rw [List.length_append, List.length_map, List.length_map, List.length_range]
          exact Nat.le_of_lt (small500 (by show 1 + i + 1 ≤ 500; omega))
        refine ⟨((((s1.trans s2).trans s4).trans s5).trans s6).trans (same_upd nc4), c4, some (.int (0 + (i : Int))), rfl, ?_⟩
        rw [upd_same]
        show _ = some (HO.lst (([1] ++ ((List.range ((row i).length - 1)).map fun k => (row i).getD k 0 + (row i).getD (k + 1) 0) ++ [1]).map V.int))
        rw [hlr, Nat.add_sub_cancel, List.map_append, List.map_append]
        rfl
    · rintro σ H1 ⟨s1, f, c, rfl, hf⟩
      exact ⟨_, rfl, q f H1 s1 hf⟩
theorem ok48 (T : Tops K mg) : FnOk P w K mg base CX0 5 (T.fa 48) (T.fd 48) ["_law_lot", "_law_n", "_law_j"] (spMade K) := by
  refine T.d48.F.ok sc48 (fun vs H Q E h => ?_) (fun cdv A outer s H vs Q E hr h => ?_)
  · obtain ⟨_, _, _, _, rfl, _⟩ := h
    rfl
  · obtain ⟨d, L, n, j, rfl, ⟨M, hM, rfl⟩, hin, hn, hj, q⟩ := h
    have hu := hu_of hr
    have hr3 := hr.mono (show 3 ≤ 4 by decide)
    have hr1 := hr.mono (show 1 ≤ 4 by decide)
    have hl := hin.len
    rw [List.length_map] at hl
    refine ⟨_, pss_one (ps_ret (pe_callD T.d45 (ok45 T) hr (pa_cons (pe_lock (pe_lc (own := [("_law_k", 3)]) (g := gName 3) (tt := tYes) (by rfl) sc48.nd (pi_keys (pv 0)) (blkOk_by (N := ["_law_lot", "_law_n", "_law_j", "_law_k"]) (sc := defScope s48) (by decide +kernel))
      (fun _ _ _ _ _ => pg_name (i := 3) sc48.nd rfl (Or.inl rfl)) (fun _ _ _ _ _ => pts_nil)
      (fun _ _ _ _ _ => pe_callD T.d35 (ok35 T) hr3 (pa_cons (pe_dget hu (pv 0) (pv 3) (fun _ _ => rfl)) (pa_cons (pe_tup (pa_cons (pe_callD T.d44 (ok44 T) hr1 (pa_cons (pe_op op_sub (pv 1) (pv 3)) (pa_cons (pv 2) pa_nil))) (pa_cons pe_int pa_nil))) pa_nil))))) pa_nil))), ?_⟩
    refine lot_compF hM hl (f := shr n j) rfl (fun od H2 m Q' hm k1 hd fm q' => ?_) fun D H2 xs s2 hD hf => ?_
    · have hmm : m.2 ∈ M.map (·.2) := List.mem_map.mpr ⟨m, hm, rfl⟩
      have hp := hin.pl _ hmm
      refine ⟨_, rfl, _, rfl, d, m.1, rfl, DGet.m hd (valM hM.nd hm), _, rfl, _, rfl, n, m.2.1, rfl, rfl, _, rfl, n - m.2.1, j, rfl, ⟨by omega, hj⟩, (by show 2 ≤ sizeLine; decide), fun t nt => ?_⟩
      exact ⟨m.1, .ref t, _, _, rfl, fm.same (same_upd nt), Fr.int, (hin.bd _ hmm).sm (by decide), Sm.int (Nat.lt_of_le_of_lt (pow_le (by omega) hj) (by decide)), fun v5 H5 s5 f5 => q' v5 H5 ((same_upd nt).trans s5) f5⟩
    · refine ⟨D, xs, (M.map (·.2)).map (shr n j), 2 ^ 136, rfl, SqL.of hD, hf, shr_bd hin hn hj, ?_, fun v H' s' f' => q v H' (s2.trans s') f'⟩
      rw [List.length_map, List.length_map]
      have h2 : (M.length + 1) * 2 ^ 136 ≤ 501 * 2 ^ 136 := Nat.mul_le_mul_right _ (by omega)
      exact Nat.lt_of_le_of_lt h2 (by decide)
theorem ok49 (T : Tops K mg) : FnOk P w K mg base CX0 5 (T.fa 49) (T.fd 49) ["_law_numbers", "_law_n"] (spWorth K) := by
  refine T.d49.F.ok sc49 (fun vs H Q E h => ?_) (fun cdv A outer s H vs Q E hr h => ?_)
  · obtain ⟨_, _, _, rfl, _⟩ := h
    rfl
  · obtain ⟨v, c, n, rfl, ⟨p, xs, rfl, hp, hf⟩, hb, hl, hn, q⟩ := h
    have hr3 := hr.mono (show 3 ≤ 4 by decide)
    have hr1 := hr.mono (show 1 ≤ 4 by decide)
    have hlx : xs.length = c.length := Paired.length hf
    refine ⟨_, pss_one (ps_ret (pe_callD T.d45 (ok45 T) hr (pa_cons (pe_lc (own := [("_law_k", 2)]) (g := gName 2) (tt := tYes) (by rfl) sc49.nd (pi_range1 (by rfl) T.z_range (pa_cons (pe_callB call_len_seq (by rfl) T.z_len boot_len (pa_cons (pv 0) pa_nil)) pa_nil)) (blkOk_by (N := ["_law_numbers", "_law_n", "_law_k"]) (sc := defScope s49) (by decide +kernel))
      (fun _ _ _ _ _ => pg_name (i := 2) sc49.nd rfl (Or.inl rfl)) (fun _ _ _ _ _ => pts_nil)
      (fun _ _ _ _ _ => pe_callD T.d35 (ok35 T) hr3 (pa_cons (pk_ixT (K := K) rfl (pv 0) (pv 2) (fun _ _ => rfl)) (pa_cons (pe_tup (pa_cons (pe_callD T.d44 (ok44 T) hr1 (pa_cons (pv 1) (pa_cons (pv 2) pa_nil))) (pa_cons pe_int pa_nil))) pa_nil)))) pa_nil))), ?_⟩
    refine ⟨_, rfl, p, xs, rfl, .inr hp, _, rfl, by omega, by omega, fun D nD => ?_⟩
    rw [Int.toNat_natCast]
    have smt : ∀ x ∈ (c.zipIdx.map fun z : Rat × Nat => z.1 * ((n ^ z.2 : Int) : Rat)), Bd (2 ^ 235) x := by
      intro x hx
      obtain ⟨z, hz, rfl⟩ := List.mem_map.mp hx
      have h1 := List.mem_zipIdx' hz
      have h2 : z.2 < c.length := h1.1
      exact ((hb z.1 (by rw [h1.2]; exact List.getElem_mem _)).mulInt _ (pow_le10 hn (by omega))).mono (by decide)
    refine lc_itY (walk_range (lo := 0) (n := xs.length)) (fun i H1 => Same H H1 ∧ ∃ ys, H1 D = some (.lst ys) ∧ Frs K H1 ys ((c.zipIdx.map fun z : Rat × Nat => z.1 * ((n ^ z.2 : Int) : Rat)).take i)) ⟨same_upd nD, [], upd_same, .nil⟩ (fun _ _ _ _ => trivial) ?_ ?_
    · rintro i x H1 H2 hi ⟨s1, ys, hD, hfy⟩ ⟨rfl, rfl⟩
      obtain ⟨y, hy⟩ := lens63 hi
      obtain ⟨b, hbq, fb⟩ := paired_get hf hy
      have hyl : ys.length ≤ 9 := by
        rw [Paired.length hfy, List.length_take, List.length_map, List.length_zipIdx]
        omega
      have e0 : (0 : Int) + (i : Int) = (i : Int) := Int.zero_add _
      refine ⟨rfl, _, rfl, _, rfl, p, xs, _, y, rfl, rfl, Same.tup s1 hp, (by rw [e0]; exact atI_nat hy), _, rfl, _, rfl, n, i, (by show [V.int n, V.int (0 + (i : Int))] = _; rw [e0]), ⟨by omega, by omega⟩, (by show 2 ≤ sizeLine; decide), fun t nt => ?_⟩
      have s3 := same_upd (o := .tup [.int (n ^ i), .int 1]) nt
      refine ⟨y, .ref t, b, _, rfl, fb.same (s1.trans s3), Fr.int, (hb b (List.mem_of_getElem? hbq)).sm (by decide), Sm.int (Nat.lt_of_le_of_lt (pow_le10 hn (by omega)) (by decide)), fun v5 H5 s5 f5 => ?_⟩
      have hD5 := s5 _ _ (s3 _ _ hD)
      refine ⟨ys, hD5, small500 (by omega), Same.into ((s1.trans s3).trans s5) nD, ys ++ [v5], upd_same, ?_⟩
      rw [take_snoc (worth_at hbq)]
      exact Paired.snoc (Frs.into (Frs.same (Frs.same hfy s3) s5) hD5) (f5.into hD5)
    · rintro H1 ⟨s1, ys, hD, hfy⟩
      rw [List.take_of_length_le (by simp; omega)] at hfy
      refine ⟨D, ys, _, 2 ^ 235, rfl, SqL.of hD, hfy, smt, ?_, fun u H' s' f' => q u H' (s1.trans s') f'⟩
      rw [List.length_map, List.length_zipIdx]
      have h2 : (c.length + 1) * 2 ^ 235 ≤ 10 * 2 ^ 235 := Nat.mul_le_mul_right _ (by omega)
      exact Nat.lt_of_le_of_lt h2 (by decide)
theorem ok47 (T : Tops K mg) : FnOk P w K mg base CX0 5 (T.fa 47) (T.fd 47) ["_law_lot", "_law_j"] (spPoly K) := by
  refine T.d47.F.ok sc47 (fun vs H Q E h => ?_) (fun cdv A outer s H vs Q E hr h => ?_)
  · obtain ⟨_, _, _, rfl, _⟩ := h
    rfl
  · obtain ⟨d, L, j, rfl, ⟨M, hM, rfl⟩, hin, hj, q⟩ := h
    have hu := hu_of hr
    have hr3 := hr.mono (show 3 ≤ 4 by decide)
    have hr1 := hr.mono (show 1 ≤ 4 by decide)
    have hl := hin.len
    rw [List.length_map] at hl
    refine ⟨_, pss_cons (ps_set (i := 2) sc47.nd rfl (.inl rfl) (pe_lst pa_nil))
      (pss_cons (ps_for PassesOwn.never rfl (pi_enum (by rfl) T.z_enumerate (pa_cons (pe_callD T.d46 (ok46 T) hr1 (pa_cons (pv 1) pa_nil)) pa_nil)) (pg_tup rfl (pgs_cons (pg_name (i := 3) sc47.nd rfl (.inr rfl)) (pgs_cons (pg_name (i := 4) sc47.nd rfl (.inl rfl)) pgs_nil)))
        (pss_cons (ps_set (i := 5) sc47.nd rfl (.inl rfl) (pe_callD T.d45 (ok45 T) hr (pa_cons (pe_lock (pe_lc (own := [("_law_k", 6)]) (g := gName 6) (tt := tYes) (by rfl) sc47.nd (pi_keys (pv 0)) (blkOk_by (N := ["_law_lot", "_law_j", "_law_found", "_law_power_here", "_law_choices_here", "_law_some", "_law_k"]) (sc := defScope s47) (by decide +kernel))
            (fun _ _ _ _ _ => pg_name (i := 6) sc47.nd rfl (Or.inl rfl)) (fun _ _ _ _ _ => pts_nil)
            (fun _ _ _ _ _ => pe_callD T.d35 (ok35 T) hr3 (pa_cons (pe_dget hu (pv 0) (pv 6) (fun _ _ => rfl)) (pa_cons (pe_tup (pa_cons (pe_callD T.d44 (ok44 T) hr1 (pa_cons (pe_op op_sub pe_int (pv 6)) (pa_cons (pe_op op_sub (pv 1) (pv 3)) pa_nil))) (pa_cons pe_int pa_nil))) pa_nil))))) pa_nil)))
        (pss_one (ps_expr (pe_bm PySem.F.plainAttrs_list PySem.F.slot_list_append PySem.F.type_list_append mt_append (pv 2) (pa_cons (pe_callD T.d35 (ok35 T) hr3 (pa_cons (pv 5) (pa_cons (pe_tup (pa_cons (pv 4) (pa_cons pe_int pa_nil))) pa_nil))) pa_nil))))))
      (pss_cons (ps_while PassesOwn.never (PW.pt (pw_and (pt_cmpR (op_neD hr.units) (pv 2) (pe_lst pa_nil) (nomark _)) (pw_and1 (pt_cmpR op_eq (pe_sub0 (pe_ix ix_list (pv 2) (pe_un un_neg pe_int) (fun _ _ => rfl))) pe_int (nomark _)))))
        (pss_one (ps_expr (pe_bm0 PySem.F.plainAttrs_list PySem.F.slot_list_pop PySem.F.type_list_pop mt_pop (pv 2)))))
      (pss_one (ps_ret (pe_callTy call_tuple_of (by rfl) T.z_tuple boot_tuple (pa_cons (pv 2) pa_nil)))))), ?_⟩
    refine ⟨Nat.zero_le _, fun o no => ?_⟩
    have s1 : Same H (upd H o (.lst [])) := same_upd no
    refine ⟨_, rfl, j, rfl, hj, fun c1 H1 sc1 hc1 => ⟨c1, _, rfl, SqL.of hc1, ?_⟩⟩
    have ho1 : H1 o = some (.lst []) := sc1 _ _ upd_same
    have hlr : (row j).length = j + 1 := row_len j hj
    have hdl : (due (M.map (·.2)) j).length = j + 1 := due_len _ hj
    refine for_it walk_enum (fun i σ H2 => Same H H2 ∧ SqL K H2 c1 ((row j).map V.int) ∧ ∃ a b c xs, σ = [some (.ref d), some (.int (j : Int)), some (.ref o), a, b, c, none] ∧ H2 o = some (.lst xs) ∧ Frs K H2 xs ((due (M.map (·.2)) j).take i))
      ⟨s1.trans sc1, SqL.of hc1, none, none, none, [], rfl, ho1, .nil⟩ (fun i σ H2 _ h => h.2.1) ?_ ?_
    · rintro i x σ H2 H3 hi ⟨s2, hsq, a, b, c, xs, rfl, ho, hf⟩ ⟨t, x1, x2, rfl, nt, rfl, e1, e2⟩
      rw [List.length_map, hlr] at hi
      obtain rfl : V.int (i : Nat) = x1 := Option.some.inj e1
      obtain ⟨ci, hci⟩ := lens63 (l := row j) (i := i) (by omega)
      obtain rfl : V.int ci = x2 := by
        have e3 : ((row j).map V.int)[i]? = some x2 := e2
        rw [List.getElem?_map, hci] at e3
        exact Option.some.inj e3
      have s3 := same_upd (o := .tup [.int (i : Nat), .int ci]) nt
      have hxl : xs.length ≤ 9 := by
        rw [Paired.length hf, List.length_take, hdl]
        omega
      refine ⟨t, [.int (i : Nat), .int ci], rfl, SqT.of upd_same, rfl, _, [.int ci], rfl, .int ci, [], rfl, rfl, ?_⟩
      have hM3 := hM.same (s2.trans s3)
      have nz : (0 : Int).natAbs ≤ 1000 := by decide
      refine lot_compF hM3 hl (f := shr 0 (j - i)) rfl (fun od H4 m Q' hm k1 hd fm q' => ?_) fun D H4 ys s4 hD hfy => ?_
      · have hmm : m.2 ∈ M.map (·.2) := List.mem_map.mpr ⟨m, hm, rfl⟩
        have hp := hin.pl _ hmm
        refine ⟨_, rfl, _, rfl, d, m.1, rfl, DGet.m hd (valM hM.nd hm), _, rfl, 0, m.2.1, rfl, rfl, _, rfl, _, rfl, (j : Int), (i : Int), rfl, rfl, 0 - m.2.1, j - i, ?_, ⟨by omega, by omega⟩, (by show 2 ≤ sizeLine; decide), fun t2 nt2 => ?_⟩
        · show [V.int (0 - m.2.1), V.int ((j : Int) - (i : Int))] = _
          rw [show (j : Int) - (i : Int) = ((j - i : Nat) : Int) by omega]
        · exact ⟨m.1, .ref t2, _, _, rfl, fm.same (same_upd nt2), Fr.int, (hin.bd _ hmm).sm (by decide), Sm.int (Nat.lt_of_le_of_lt (pow_le (by omega) (by omega)) (by decide)), fun v5 H5 s5 f5 => q' v5 H5 ((same_upd nt2).trans s5) f5⟩
      · refine ⟨D, ys, (M.map (·.2)).map (shr 0 (j - i)), 2 ^ 136, rfl, SqL.of hD, hfy, shr_bd hin nz (by omega), ?_, fun v5 H5 s5 f5 => ?_⟩
        · rw [List.length_map, List.length_map]
          have h2 : (M.length + 1) * 2 ^ 136 ≤ 501 * 2 ^ 136 := Nat.mul_le_mul_right _ (by omega)
          exact Nat.lt_of_le_of_lt h2 (by decide)
        rw [made_eq] at f5
        have sF := (s3.trans s4).trans s5
        have ho5 := sF _ _ ho
        have hcb : ci.natAbs ≤ 128 := row_le j hj ci (List.mem_of_getElem? hci)
        refine ⟨_, rfl, .inl ⟨rfl, _, SqL.of ho5⟩, _, rfl, _, rfl, (by show 2 ≤ sizeLine; decide), fun t6 nt6 => ?_⟩
        have s6 := same_upd (o := .tup [.int ci, .int 1]) nt6
        refine ⟨v5, .ref t6, _, _, rfl, f5.same s6, Fr.int, (made_bd hin nz (by omega)).sm (by decide), Sm.int (Nat.lt_of_le_of_lt hcb (by decide)), fun v7 H7 s7 f7 => ?_⟩
        have ho7 := s7 _ _ (s6 _ _ ho5)
        have sG := (sF.trans s6).trans s7
        refine ⟨o, xs, v7, rfl, rfl, ho7, small1000 (by omega), Same.into (s2.trans sG) no, ?_, some (.int (i : Nat)), some (.int ci), some v5, xs ++ [v7], rfl, upd_same, ?_⟩
        · have hc7 := sG.seq hsq
          refine SqL.kp (w := o) Kp.upd (fun e => ?_) hc7
          have := sc1
          rw [e] at hc1
          rw [ho1] at hc1
          have hrr := HO.lst.inj (Option.some.inj hc1)
          have := congrArg List.length hrr
          rw [List.length_map, hlr] at this
          simp at this
        · rw [take_snoc (due_at hci)]
          exact Paired.snoc (Frs.into (hf.same sG) ho7) (f7.into ho7)
    · rintro σ H2 ⟨s2, hsq, a, b', c, xs, rfl, ho, hf⟩
      rw [List.take_of_length_le (by rw [hdl, List.length_map, hlr]; exact Nat.le_refl _)] at hf
      refine ⟨fun m σ H2 => Same H H2 ∧ ∃ xs l, σ = [some (.ref d), some (.int (j : Int)), some (.ref o), a, b', c, none] ∧ H2 o = some (.lst xs) ∧ Frs K H2 xs l ∧ trim l = trim (due (M.map (·.2)) j) ∧ m = l.length ∧ l.length ≤ 9, ⟨_, s2, xs, _, rfl, ho, hf, rfl, rfl, by rw [hdl]; omega⟩, ?_⟩
      rintro m σ H2 ⟨s3, xs, l, rfl, ho, hf, ht, rfl, hl9⟩
      refine ⟨_, rfl, Nat.zero_le _, fun b nb => ?_⟩
      have s4 := same_upd (o := .lst []) nb
      refine ⟨.list (l.map dF), .list [], .lst (s4.seq (SqL.of ho)) (hf.same s4).dp, .lst (SqL.of upd_same) .nil, shaped_lst l, shaped_l0, _, rfl, ?_⟩
      rw [eqv_l0]
      by_cases hne : l = []
      · subst hne
        refine iteF ⟨_, rfl, o, xs, rfl, .inl ⟨s4.seq (SqL.of ho), fun t nt => ?_⟩⟩
        refine q _ _ ((s3.trans s4).trans (same_upd nt)) ⟨t, xs, rfl, SqT.of upd_same, ?_⟩
        rw [← ht]
        exact (hf.same s4).same (same_upd nt)
      · obtain ⟨l', z, rfl⟩ : ∃ d x, l = d ++ [x] := ⟨l.dropLast, l.getLast hne, (List.dropLast_concat_getLast hne).symm⟩
        have hie : (l' ++ [z]).isEmpty = false := by cases l' <;> rfl
        rw [hie]
        obtain ⟨xl, x1, ex, hfl, fz⟩ := Paired.snoc_inv hf
        have ho4 : (upd H2 b (.lst [])) o = some (.lst xs) := s4 _ _ ho
        obtain ⟨pz, epz, tz⟩ := fz.same s4
        refine iteT ⟨_, rfl, 1, rfl, o, xs, -1, x1, rfl, rfl, SqL.of ho4, (by rw [ex]; exact atI_last _ _), pz, _, 0, _, epz, rfl, tz, rfl, rfl, _, rfl, ?_⟩
        rw [dec_int]
        by_cases hz : z = 0
        · have hzn : z.num = 0 := by rw [hz]; rfl
          rw [decide_eq_true hzn]
          subst hz
          refine iteT ⟨fun σ' H' => Same H H' ∧ ∃ xs l, σ' = [some (.ref d), some (.int (j : Int)), some (.ref o), a, b', c, none] ∧ H' o = some (.lst xs) ∧ Frs K H' xs l ∧ trim l = trim (due (M.map (·.2)) j) ∧ l.length < (l' ++ [(0 : Rat)]).length ∧ l.length ≤ 9, ?_, ?_⟩
          · rintro σ' H' ⟨a1, xs', l2, a2, a3, a4, a5, a6, a7⟩
            exact ⟨_, a6, a1, xs', l2, a2, a3, a4, a5, rfl, a7⟩
          · have hlen : (l' ++ [(0 : Rat)]).length = l'.length + 1 := by simp
            refine ⟨_, rfl, .inl ⟨rfl, _, SqL.of ho4⟩, o, xs, x1, rfl, rfl, ho4, ?_, Same.into (s3.trans s4) no, xl, l', rfl, ?_, ?_, ?_, ?_, ?_⟩
            · rw [ex]
              simp
            · rw [upd_same, ex]
              simp
            · exact Frs.into (Frs.same hfl s4) ho4
            · rw [← ht, trim_zero]
            · omega
            · omega
        · rw [decide_eq_false (num_ne hz)]
          refine iteF ⟨_, rfl, o, xs, rfl, .inl ⟨SqL.of ho4, fun t nt => ?_⟩⟩
          refine q _ _ ((s3.trans s4).trans (same_upd nt)) ⟨t, xs, rfl, SqT.of upd_same, ?_⟩
          rw [← ht, trim_ne l' hz]
          exact (hf.same s4).same (same_upd nt)
end
end K42

set_option Elab.async false
set_option linter.all false
set_option maxRecDepth 100000
set_option maxHeartbeats 4000000
namespace K42
open PySem PySem.Spec PyProof.Rows L2
/-! ### a call by keywords alone -/
section
variable {X : Cx} {k : Nat} {f : Addr} {fd : FuncData} {ps ks : List Str} {sp : Sp} {x : Str} {p pos : Pos} {kws : List Keyword} {tk : TA} {g : List Value → List Value → List Value} {gV : List V → List V → List V}
theorem pe_callK0 (F : FnOk X.prog X.w X.K X.mg X.base CX0 k f fd ps sp) (hr : Room k X.A) (hg : Gl X x) (hm : X.mg x = some (.ref f)) (hk : PySem.W.keepIn X.K (.ref f) = true) (hb : KBinds X.K fd ps ks g gV)
    (hkw : PK X kws tk) (hall : (backToKw pos (keywordEach kws X.env)).all (·.1.isSome) = true := by rfl) (hks : (backToKw pos (keywordEach kws X.env)).filterMap (·.1) = ks := by rfl) (hdb : (x == ("__debug__" : Str)) = false := by decide)
    (hpl : ((backTo pos (starEach [] X.env)).any (·.1) || (backToKw pos (keywordEach kws X.env)).any (·.1.isNone)) = false := by rfl) : PE X (.Call (.Name x p) [] kws pos) (tCallK sp gV E0 tNil tk) := by
  refine ⟨fun pins s σ H Q I h => wpAny_Call_Name_kw (ld_glob I hg hm ?_ hdb)⟩
  refine PySem.W.callWith_KW0 (h₀ := X.base) I.ok.mod.kin hk hall (thn (hkw.run pos pins s σ H _ I h) ?_) hpl
  rintro ws s2 ⟨zs, H2, I2, rz, q2⟩
  refine ⟨I2.kIn, ?_⟩
  rw [hks]
  exact run_fnk F hr hb pass0 I2 .nil rz q2
end
/-! ### what is shown of two tuples of fractions -/
theorem list_text_le (ts : List Str) : (listText ts).length ≤ piled ts + 2 := by
  have h := textFrom_len_le ts 0 "["
  have h2 : (listText ts).length = (textFrom 0 "[" ts).length + 1 := by
    show (textFrom 0 "[" ts ++ "]").length = _
    rw [strLen_append]
    rfl
  have h3 : ∀ l : List Str, piled l = (l.map (·.length)).sum + 2 * l.length := by
    intro l
    induction l with
    | nil => rfl
    | cons a r ih =>
      rw [piled_cons, ih, List.map_cons, List.sum_cons, List.length_cons]
      omega
  have h4 : (("[" : String) : Str).length = 1 := rfl
  rw [h3]
  omega
theorem piled_le {ts : List Str} {b : Nat} (h : ∀ t ∈ ts, t.length ≤ b) : piled ts ≤ ts.length * (b + 2) := by
  induction ts with
  | nil => exact Nat.le_of_eq (by simp [piled])
  | cons t r ih =>
    rw [piled_cons, List.length_cons, Nat.succ_mul]
    have h1 := h t List.mem_cons_self
    have h2 := ih fun z hz => h z (List.mem_cons_of_mem _ hz)
    omega
theorem int_len {i : Int} (h : i.natAbs.log2 < 1920) : ((toString i : String) : Str).length ≤ 2000 := Nat.le_trans (int_text_len_1921 h) (by decide)
structure Shw (q : Rat) : Prop where
  num : q.num.natAbs.log2 < 1920
  den : (q.den : Int).natAbs.log2 < 1920
theorem Bd.shw {B : Nat} {q : Rat} (h : Bd B q) (l : B < 2 ^ 250) : Shw q := by
  refine ⟨?_, ?_⟩
  · exact Nat.lt_of_lt_of_le (PySem.Flt.log2_lt_of (k := 250) (by decide) (Nat.lt_of_le_of_lt h.num l)) (by decide)
  · rw [Int.natAbs_natCast]
    exact Nat.lt_of_lt_of_le (PySem.Flt.log2_lt_of (k := 7) (by decide) (Nat.lt_of_le_of_lt h.den (by decide))) (by decide)
theorem shown_dF {q : Rat} (h : Shw q) : (dF q).shown.length ≤ 4010 := by
  unfold dF
  simp only [PyData.shown, PyData.shownAll]
  refine Nat.le_trans (fmt_text _) ?_
  have h2 := piled_le (ts := [((toString q.num : String) : Str), ((toString (q.den : Int) : String) : Str)]) (b := 2000) (by
    intro t ht
    rcases List.mem_cons.mp ht with rfl | ht
    · exact int_len h.num
    · rw [List.mem_singleton.mp ht]
      exact int_len h.den)
  have h3 : [((toString q.num : String) : Str), ((toString (q.den : Int) : String) : Str)].length = 2 := rfl
  rw [h3] at h2
  omega
theorem shownAll_map : ∀ l : List PyData, PyData.shownAll l = l.map PyData.shown
  | [] => by simp only [PyData.shownAll, List.map_nil]
  | x :: r => by simp only [PyData.shownAll, List.map_cons, shownAll_map r]
def dT (c : List Rat) : PyData := .tuple (c.map dF)
def dTT (c : List Rat) : PyData := .list [dT c, dT c]
theorem shown_dT {c : List Rat} (h : ∀ q ∈ c, Shw q) (hl : c.length ≤ 9) : (dT c).shown.length ≤ 40000 := by
  unfold dT
  simp only [PyData.shown, shownAll_map]
  refine Nat.le_trans (fmt_text _) ?_
  have h2 := piled_le (ts := (c.map dF).map PyData.shown) (b := 4010) (by
    intro t ht
    obtain ⟨z, hz, rfl⟩ := List.mem_map.mp ht
    obtain ⟨q, hq, rfl⟩ := List.mem_map.mp hz
    exact shown_dF (h q hq))
  have h3 : ((c.map dF).map PyData.shown).length ≤ 9 := by rw [List.length_map, List.length_map]; exact hl
  have h4 : ((c.map dF).map PyData.shown).length * (4010 + 2) ≤ 9 * (4010 + 2) := Nat.mul_le_mul_right _ h3
  omega
theorem shown_dTT {c : List Rat} (h : ∀ q ∈ c, Shw q) (hl : c.length ≤ 9) : (dTT c).shown.length ≤ sizeLine := by
  unfold dTT
  simp only [PyData.shown, shownAll_map, List.map_cons, List.map_nil]
  refine Nat.le_trans (list_text_le _) ?_
  have h1 := shown_dT h hl
  have h2 := piled_le (ts := [(dT c).shown, (dT c).shown]) (b := 40000) (by
    intro t ht
    rcases List.mem_cons.mp ht with rfl | ht
    · exact h1
    · rw [List.mem_singleton.mp ht]
      exact h1)
  have h3 : [(dT c).shown, (dT c).shown].length = 2 := rfl
  rw [h3] at h2
  have h4 : (100000 : Nat) ≤ sizeLine := by decide
  omega
theorem showable_dF {q : Rat} (h : Shw q) : (dF q).showable = true := by
  unfold dF
  simp only [PyData.showable, PyData.showableAll, h.num, h.den, decide_true, Bool.and_true]
theorem showables_dF : ∀ {c : List Rat}, (∀ q ∈ c, Shw q) → PyData.showableAll (c.map dF) = true
  | [], _ => by simp only [List.map_nil, PyData.showableAll]
  | q :: r, h => by
    simp only [List.map_cons, PyData.showableAll, showable_dF (h q List.mem_cons_self), showables_dF (c := r) fun z hz => h z (List.mem_cons_of_mem _ hz), Bool.and_true]
theorem noDict_dF (q : Rat) : (dF q).hasDict = false := by
  unfold dF
  simp only [PyData.hasDict, PyData.hasDictAll, Bool.or_false]
theorem noDicts_dF : ∀ c : List Rat, PyData.hasDictAll (c.map dF) = false
  | [] => by simp only [List.map_nil, PyData.hasDictAll]
  | q :: r => by simp only [List.map_cons, PyData.hasDictAll, noDict_dF, noDicts_dF r, Bool.or_false]
theorem dTT_ok {c : List Rat} (h : ∀ q ∈ c, Shw q) : (dTT c).showable = true ∧ (dTT c).hasDict = false ∧ (dTT c).depth ≤ 50 := by
  unfold dTT dT
  have := depths_dF c
  refine ⟨?_, ?_, ?_⟩
  · simp only [PyData.showable, PyData.showableAll, showables_dF h, Bool.and_true]
  · simp only [PyData.hasDict, PyData.hasDictAll, noDicts_dF, Bool.or_false]
  · simp only [PyData.depth, PyData.depthAll]
    omega
theorem Tup.dp {K : PySem.W.Frag} {H : Hp} {v : V} {c : List Rat} (h : Tup K H v c) : Dp K H v (dT c) := by
  obtain ⟨p, xs, rfl, t, f⟩ := h
  exact .tup t f.dp
end K42

set_option Elab.async false
set_option linter.all false
set_option maxRecDepth 100000
set_option maxHeartbeats 4000000
namespace K42
open PySem PySem.Spec PyProof.Rows L2
theorem Lot.kp {K : PySem.W.Frag} {w d : Addr} {H H' : Hp} {L : L1} {ys : List V} (h : Lot K H d L) (k : Kp w H H') (hw : H w = some (.lst ys)) : Lot K H' d L := by
  obtain ⟨M, hM, rfl⟩ := h
  exact ⟨M, ⟨k _ _ hM.at_ (ne_of hM.at_ hw (by intro z; cases z)), fun m hm => (hM.fr m hm).kp k hw, hM.nd⟩, rfl⟩
theorem Row.kp {K : PySem.W.Frag} {w : Addr} {H H' : Hp} {v : V} {s : Int} {qs : List Rat} {ys : List V} (h : Row K H v s qs) (k : Kp w H H') (hw : H w = some (.lst ys)) : Row K H' v s qs :=
  let ⟨p, pt, xs, e, a, b, c⟩ := h
  ⟨p, pt, xs, e, k.tup hw a, k.tup hw b, c.kp k hw⟩
theorem Well.lst {H : Hp} {w : Addr} (h : Well H w) : ∃ ys, H w = some (.lst ys) := let ⟨_, _, _, e, _⟩ := h; ⟨_, e⟩
/-! ### a lot less the same one later -/
theorem less_ok {B n c : Nat} {L L' : L1} (h : LOk B n c L) (hs : SumOf L (clr ((L.map fun p => (p.1 + 1, p.2)).map fun p => (p.1, p.2 * ((-1 : Int) : Rat)))) L') (nd : (L'.map (·.1)).Nodup) : LOk (B * 2) (n * 2) (c + 1) L' := by
  have hB : ∀ p ∈ clr ((L.map fun p => (p.1 + 1, p.2)).map fun p => (p.1, p.2 * ((-1 : Int) : Rat))), Bd B p.2 := by
    intro p hp
    obtain ⟨z, hz, rfl⟩ := List.mem_map.mp (List.mem_filter.mp hp).1
    obtain ⟨y, hy, rfl⟩ := List.mem_map.mp hz
    exact ((h.bd y hy).mulInt (-1) (B := 1) (by decide)).mono (by omega)
  have ndB : ((clr ((L.map fun p => (p.1 + 1, p.2)).map fun p => (p.1, p.2 * ((-1 : Int) : Rat)))).map (·.1)).Nodup := clr_nd (mul_nd _ (add_inj_nd 1 h.nd))
  refine ⟨nd, hs.ne, fun p hp => ?_, fun p hp => ?_, ?_⟩
  · have e : look L' p.1 = p.2 := look_mem nd hp
    rw [← e, hs.val]
    exact ((look_bd h.nd h.bd).add (look_bd ndB hB)).mono (by omega)
  · rcases hs.keys p hp with hk | hk
    · obtain ⟨z, hz, e⟩ := List.mem_map.mp hk
      have := h.pl z hz
      rw [e] at this
      omega
    · obtain ⟨z, hz, e⟩ := List.mem_map.mp hk
      obtain ⟨y, hy, rfl⟩ := List.mem_map.mp (List.mem_filter.mp hz).1
      obtain ⟨u, hu, rfl⟩ := List.mem_map.mp hy
      have h1 := h.pl u hu
      have e' : u.1 + 1 = p.1 := e
      omega
  · have h1 := hs.len
    have h2 : (clr ((L.map fun p => (p.1 + 1, p.2)).map fun p => (p.1, p.2 * ((-1 : Int) : Rat)))).length ≤ L.length := by
      refine Nat.le_trans (List.length_filter_le _ _) ?_
      rw [List.length_map, List.length_map]
      exact Nat.le_refl _
    have h3 := h.len
    omega
/-- a lot as it is asked in the end -/
structure FinL (L : L1) : Prop where
  lin : LotIn L
  ne : ∀ p ∈ L, p.2 ≠ 0
theorem LOk.fin {B n c : Nat} {L : L1} (h : LOk B n c L) (h1 : B ≤ 2 ^ 40) (h2 : n ≤ 500) (h3 : c ≤ 1000) : FinL L :=
  ⟨⟨fun p hp => (h.bd p hp).mono h1, fun p hp => Nat.le_trans (h.pl p hp) h3, Nat.le_trans h.len h2⟩, h.ne⟩
theorem told_due {L : L1} {s : Int} {qs : List Rat} (h : ∀ j, psum s qs j = made L 0 j) (j : Nat) : told s qs j = due L j := by
  unfold told due
  apply List.map_congr_left
  intro p _
  rw [h]
/-! ### on_power by its keywords -/
def gK {α : Type} : List α → List α → List α
  | [], ws => ws
  | _ :: _, _ => []
theorem kb26 {K : PySem.W.Frag} {mg : Str → Option Value} (T : Tops K mg) : KBinds K (T.fd 26) ["row", "order"] ["row", "order"] gK gK := by
  obtain ⟨oc, od, kV, doc, pm, an, cdv, ct, osl, e, lk, hcd⟩ := T.d26.F.ex
  refine ⟨fun s us ws _ hl => ?_, fun {vs us zs ws} r1 r2 => ?_⟩
  · rw [e]
    match us, ws, hl with
    | [], [a, b], _ => exact .of_eq rfl
    | [], [], hl => cases hl
    | [], [_], hl => cases hl
    | [], _ :: _ :: _ :: _, hl => cases hl
    | _ :: _, _, hl => cases hl
  · cases r1 with
    | nil => exact r2
    | cons _ _ => exact .nil
def spRight : Sp := fun vs H Q _ => ∃ w : Addr, vs = [.ref w] ∧ Well H w ∧ ∀ H', Kp w H H' → Q (.bl true) H'
section
variable {P : Program} {w : World} {K : PySem.W.Frag} {mg : Str → Option Value} {base : Heap}
theorem ok50 (T : Tops K mg) : FnG P w K mg base 7 (T.fa 50) (T.fd 50) ["_law_well_here"] spRight := by
  refine FnG.of T.d50.F sc50 (fun vs H Q E h => ?_) (fun cdv A outer s H vs Q E hG hr h => ?_)
  · obtain ⟨_, rfl, _⟩ := h
    rfl
  · obtain ⟨w0, rfl, hw, q⟩ := h
    have hr1 := hr.mono (show 1 ≤ 6 by decide)
    have hr4 := hr.mono (show 4 ≤ 6 by decide)
    have hr5 := hr.mono (show 5 ≤ 6 by decide)
    obtain ⟨t2, p2, h2⟩ : ∃ t2, PSs (cxOf CX0 P w K mg base ["_law_well_here", "_law_lot", "_law_turn", "_law_line_here", "_law_far", "_law_j", "_law_due", "_law_told", "_law_n"] "_law_right" (defScope s50) (T.fa 50) cdv A outer s H E).nox ((defBody s50).drop 3) t2 ∧
        ∀ (H1 : Hp) (d : Addr) (L : L1) (c : Option V), Kp w0 H H1 → Well H1 w0 → Lot K H1 d L → FinL L → t2 { nx := fun _ H' => Q .non H', rt := Q } [some (.ref w0), some (.ref d), c, none, none, none, none, none, none] H1 := by
      refine ⟨_, pss_cons (ps_par (i := 3) (j := 4) (by rfl) sc50.nd rfl rfl (by decide) rfl rfl (pa_cons (pe_callD T.d37 (ok37 T) hr1 (pa_cons (pv 1) pa_nil)) (pa_cons (pe_op op_sub (pe_callD T.d29 (ok29 T) hr1 (pa_cons (pv 0) (pa_cons pe_int pa_nil))) pe_int) pa_nil)) (by rfl))
        (pss_cons (ps_for PassesOwn.never rfl (pi_list (pe_lst (pa_cons (pe_callD T.d29 (ok29 T) hr1 (pa_cons (pv 0) (pa_cons pe_int pa_nil))) (pa_cons (pe_op op_add pe_int (pe_callD T.d29 (ok29 T) hr1 (pa_cons (pv 0) (pa_cons pe_int pa_nil)))) pa_nil)))) (pg_name (i := 5) sc50.nd rfl (.inr rfl))
          (pss_cons (ps_set (i := 6) sc50.nd rfl (.inl rfl) (pe_callD T.d47 (ok47 T) hr5 (pa_cons (pv 1) (pa_cons (pv 5) pa_nil))))
          (pss_cons (ps_set (i := 7) sc50.nd rfl (.inr rfl) (pe_callD T.d26 (ok26 T) hr (pa_cons (pv 3) (pa_cons (pv 5) pa_nil))))
          (pss_cons (ps_if (pt_cmpR op_ne (pe_callB (cr_reprD hG hr.units) (by rfl) T.z_repr boot_repr (pa_cons (pe_lst (pa_cons (pv 7) (pa_cons (pe_callK0 (ok26 T) hr (by rfl) T.d26.m T.d26.F.kp (kb26 T) (pk_cons (pv 3) (pk_cons (pv 5) pk_nil))) pa_nil))) pa_nil))
              (pe_callB (cr_reprD hG hr.units) (by rfl) T.z_repr boot_repr (pa_cons (pe_lst (pa_cons (pv 6) (pa_cons (pv 6) pa_nil))) pa_nil)) (nomark _)) (pss_one (ps_ret pe_bl)) pss_nil)
          (pss_one (ps_if (pt_cmpR (op_neD hr.units) (pe_lc (own := [("_law_n", 8)]) (g := gName 8) (by rfl) sc50.nd (pi_tup (pe_tup (pa_cons pe_int (pa_cons pe_int (pa_cons (pe_un un_neg pe_int) (pa_cons pe_int (pa_cons (pv 4) pa_nil)))))))
              (blkOk_by (N := ["_law_well_here", "_law_lot", "_law_turn", "_law_line_here", "_law_far", "_law_j", "_law_due", "_law_told", "_law_n"]) (sc := defScope s50) (by decide +kernel)) (fun _ _ _ _ _ => pg_name (i := 8) sc50.nd rfl (Or.inl rfl))
              (fun _ _ _ _ _ => pts_one (pt_cmpR (ok_neD (K := K) rfl hr.units) (pe_callD T.d49 (ok49 T) hr5 (pa_cons (pv 7) (pa_cons (pv 8) pa_nil))) (pe_callD T.d48 (ok48 T) hr5 (pa_cons (pv 1) (pa_cons (pv 8) (pa_cons (pv 5) pa_nil)))) (nomark _)))
              (fun _ _ _ _ _ => pv 8)) (pe_lst pa_nil) (nomark _)) (pss_one (ps_ret pe_bl)) pss_nil))))))
        (pss_one (ps_ret pe_bl))), ?_⟩
      intro H1 d L c k1 hw1 hL1 hFin
      have hin := hFin.lin
      refine ⟨_, rfl, d, L, 2 ^ 40, rfl, hL1, hFin.ne, hin.bd, hin.pl, hin.len, fun v H2 st qs s2 hRow hOk hps hst hqs hqb => ?_⟩
      have hw2 := hw1.same s2
      refine ⟨_, rfl, w0, 2000, rfl, hw2, ⟨by decide, by decide⟩, fun r3 H3 r30 r31 hw3 k3 => ⟨_, 1000, rfl, rfl, _, _, rfl, ?_⟩⟩
      obtain ⟨y2, e2⟩ := hw2.lst
      have hL3 := (hL1.same s2).kp k3 e2
      have hR3 := hRow.kp k3 e2
      have kk3 : Kp w0 H H3 := (k1.trans (Kp.of s2)).trans k3
      refine ⟨_, rfl, w0, 4, rfl, hw3, ⟨by decide, by decide⟩, fun r4 H4 r40 r41 hw4 k4 => ⟨_, rfl, w0, 6, rfl, hw4, ⟨by decide, by decide⟩, fun r5 H5 r50 r51 hw5 k5 => ⟨3, r5, rfl, rfl, (by show 2 ≤ sizeLine; decide), fun c6 nc6 => ?_⟩⟩⟩
      obtain ⟨y3, e3⟩ := hw3.lst
      obtain ⟨y4, e4⟩ := hw4.lst
      have s6 := same_upd (o := .lst [.int r4, .int (3 + r5)]) nc6
      have hL6 := ((hL3.kp k4 e3).kp k5 e4).same s6
      have hR6 := ((hR3.kp k4 e3).kp k5 e4).same s6
      have kk6 : Kp w0 H (upd H5 c6 (.lst [.int r4, .int (3 + r5)])) := ((kk3.trans k4).trans k5).trans (Kp.of s6)
      have far : (r3 - 1000).natAbs ≤ 1000 := by omega
      refine ⟨c6, rfl, ⟨_, SqL.of upd_same⟩, for_list (K := K) (a := c6) (xs := [.int r4, .int (3 + r5)]) (fun i σ H7 => Same (upd H5 c6 (.lst [.int r4, .int (3 + r5)])) H7 ∧ ∃ a1 a2 a3, σ = [some (.ref w0), some (.ref d), c, some v, some (.int (r3 - 1000)), a1, a2, a3, none])
        ⟨fun _ _ e => e, none, none, none, rfl⟩ (fun i σ H7 _ h => h.1.seq (SqL.of upd_same)) ?_ ?_⟩
      · rintro i x σ H7 hx ⟨s7, a1, a2, a3, rfl⟩
        obtain ⟨j, hj, rfl⟩ : ∃ j : Nat, j ≤ 8 ∧ x = .int (j : Int) := by
          match i, hx with
          | 0, hx =>
            obtain rfl : V.int r4 = x := Option.some.inj hx
            exact ⟨r4.toNat, by omega, by rw [Int.toNat_of_nonneg r40]⟩
          | 1, hx =>
            obtain rfl : V.int (3 + r5) = x := Option.some.inj hx
            exact ⟨(3 + r5).toNat, by omega, by rw [Int.toNat_of_nonneg (by omega)]⟩
        have hRin : ∀ H', Same H7 H' → RowIn K H' v st qs j := fun H' s' => ⟨(hR6.same s7).same s', hst, hqs, hj, hqb⟩
        have cb : ∀ z ∈ trim (due L j), Bd (2 ^ 155) z := fun z hz => by
          rw [← told_due hps] at hz
          exact told_bd hst hqs hj hqb z (trim_sub _ z hz)
        have cl : (trim (due L j)).length ≤ 9 := Nat.le_trans (trim_len _) (by rw [due_len L hj]; omega)
        have sh : ∀ z ∈ trim (due L j), Shw z := fun z hz => (cb z hz).shw (by decide)
        obtain ⟨o1, o2, o3⟩ := dTT_ok sh
        have o4 := shown_dTT sh cl
        -- due
        refine ⟨_, rfl, _, rfl, d, L, j, rfl, hL6.same s7, hin, hj, fun u1 H8 s8 t8 => ?_⟩
        -- told
        refine ⟨_, rfl, _, rfl, v, st, qs, j, rfl, hRin _ s8, hOk, fun u2 H9 s9 t9 => ?_⟩
        rw [told_due hps] at t9
        -- repr of what is told
        refine ⟨_, rfl, _, rfl, _, rfl, v, st, qs, j, rfl, hRin _ (s8.trans s9), hOk, fun u3 H10 s10 t10 => ?_⟩
        rw [told_due hps] at t10
        refine ⟨(by show 2 ≤ sizeLine; decide), fun p1 np1 => ?_⟩
        have s11 := same_upd (o := .lst [u2, u3]) np1
        refine ⟨p1, dTT (trim (due L j)), rfl, .lst (SqL.of upd_same) (.cons ((t9.same s10).same s11).dp (.cons (t10.same s11).dp .nil)), o1, o2, o3, o4, ?_⟩
        -- repr of what is due
        refine ⟨_, rfl, _, rfl, (by show 2 ≤ sizeLine; decide), fun p2' np2 => ?_⟩
        have s12 := same_upd (o := .lst [u1, u1]) np2
        have t12 := (((t8.same s9).same s10).same s11).same s12
        refine ⟨p2', dTT (trim (due L j)), rfl, .lst (SqL.of upd_same) (.cons t12.dp (.cons t12.dp .nil)), o1, o2, o3, o4, rfl, _, rfl, ?_⟩
        refine iteNS rfl ?_
        -- the values
        refine ⟨1, rfl, _, rfl, (by show 5 ≤ sizeLine; decide), fun t nt => ?_⟩
        have s13 := same_upd (o := .tup [.int 0, .int 1, .int (-1), .int 2, .int (r3 - 1000)]) nt
        have sA := ((((s8.trans s9).trans s10).trans s11).trans s12).trans s13
        have t13 := (((t9.same s10).same s11).same s12).same s13
        refine ⟨t, rfl, ⟨_, SqT.of upd_same⟩, fun D nD => ?_⟩
        have s14 := same_upd (o := .lst []) nD
        refine lc_it (walk_tup (K := K) (a := t) (xs := [.int 0, .int 1, .int (-1), .int 2, .int (r3 - 1000)])) (fun i H14 => Same (upd (upd (upd H10 p1 (.lst [u2, u3])) p2' (.lst [u1, u1])) t (.tup [.int 0, .int 1, .int (-1), .int 2, .int (r3 - 1000)])) H14 ∧ H14 D = some (.lst []))
          ⟨s14, upd_same⟩ (fun _ _ _ h => Same.tup h.1 (SqT.of upd_same)) ?_ ?_
        · rintro i' x H14 H15 hi' ⟨s15, hD⟩ ⟨rfl, hx'⟩
          obtain ⟨n, hn, rfl⟩ : ∃ n : Int, n.natAbs ≤ 1000 ∧ x = .int n := by
            match i', hx' with
            | 0, hx => exact ⟨0, by decide, (Option.some.inj hx).symm⟩
            | 1, hx => exact ⟨1, by decide, (Option.some.inj hx).symm⟩
            | 2, hx => exact ⟨-1, by decide, (Option.some.inj hx).symm⟩
            | 3, hx => exact ⟨2, by decide, (Option.some.inj hx).symm⟩
            | 4, hx => exact ⟨r3 - 1000, far, (Option.some.inj hx).symm⟩
          refine ⟨rfl, _, rfl, _, rfl, u2, trim (due L j), n, rfl, t13.same s15, cb, cl, hn, fun y1 H16 s16 f16 => ?_⟩
          refine ⟨_, rfl, _, rfl, _, rfl, d, L, n, j, rfl, ((hL6.same s7).same sA).same (s15.trans s16), hin, hn, hj, fun y2 H17 s17 f17 => ?_⟩
          have ev : worth (trim (due L j)) n = made L n j := by rw [worth_trim n _ _ rfl, worth_due L hj]
          refine ⟨_, _, (f16.same s17).dp, f17.dp, shaped_dF _, shaped_dF _, _, rfl, ?_⟩
          rw [eqv_dF, decide_eq_true ev]
          refine iteF ⟨(s15.trans s16).trans s17, (s16.trans s17) _ _ hD⟩
        · rintro H14 ⟨s15, hD⟩
          refine ⟨Nat.zero_le _, fun b nb => ?_⟩
          have s16 := same_upd (o := .lst []) nb
          refine ⟨.list [], .list [], .lst (SqL.of (s16 _ _ hD)) .nil, .lst (SqL.of upd_same) .nil, shaped_l0, shaped_l0, _, rfl, ?_⟩
          rw [show PyData.eqv (.list []) (.list []) = true from eqv_l0 []]
          refine iteF ?_
          exact ⟨s7.trans (sA.trans (s15.trans s16)), _, _, _, rfl⟩
      · rintro σ H7 ⟨s7, a1, a2, a3, rfl⟩
        exact q H7 (kk6.trans (Kp.of s7))
    refine ⟨_, pss_cons (ps_set (i := 1) sc50.nd rfl (.inr rfl) (pe_callD T.d43 (ok43 T) hr4 (pa_cons (pv 0) (pa_cons pe_int pa_nil))))
      (pss_cons (ps_for PassesOwn.never rfl (pi_range1 (by rfl) T.z_range (pa_cons (pe_callD T.d29 (ok29 T) hr1 (pa_cons (pv 0) (pa_cons pe_int pa_nil))) pa_nil)) (pg_name (i := 2) sc50.nd rfl (.inl rfl))
        (pss_one (ps_set (i := 1) sc50.nd rfl (.inr rfl) (pe_callD T.d40 (ok40 T) hr5 (pa_cons (pv 1) (pa_cons (pe_callD T.d41 (ok41 T) hr1 (pa_cons (pv 1) (pa_cons pe_int pa_nil))) pa_nil))))))
      (pss_cons (ps_set (i := 1) sc50.nd rfl (.inr rfl) (pe_ifExp (pt_cmpR op_eq (pe_callD T.d29 (ok29 T) hr1 (pa_cons (pv 0) (pa_cons pe_int pa_nil))) pe_int (nomark _)) pe_dnewK (pv 1))) p2)), ?_⟩
    refine ⟨_, rfl, w0, 5, rfl, hw, ⟨by decide, by decide⟩, fun d0 H1 L0 k1 hw1 hL1 hO1 => ?_⟩
    refine ⟨_, rfl, w0, 4, rfl, hw1, ⟨by decide, by decide⟩, fun r H2 r0 r1 hw2 k2 => ⟨r, rfl, by omega, by omega, ?_⟩⟩
    obtain ⟨y1, e1⟩ := hw1.lst
    refine for_range (lo := 0) (n := r.toNat) (fun i σ H3 => Kp w0 H H3 ∧ Well H3 w0 ∧ ∃ d L c, σ = [some (.ref w0), some (.ref d), c, none, none, none, none, none, none] ∧ Lot K H3 d L ∧ LOk (2 ^ 37 * 2 ^ i) (5 * 2 ^ i) (710 + i) L)
      ⟨k1.trans k2, hw2, d0, L0, none, rfl, hL1.kp k2 e1, hO1⟩ ?_ ?_
    · rintro i σ H3 hi ⟨k3, hw3, d, L, c, rfl, hL3, hO3⟩
      have i3 : i ≤ 3 := by omega
      have p3 : 2 ^ i ≤ 2 ^ 3 := Nat.pow_le_pow_right (by decide) i3
      have hlen : L.length ≤ 200 := by
        have := hO3.len
        omega
      refine ⟨_, rfl, _, rfl, d, L, 1, rfl, hL3, by omega, fun d4 H4 s4 hL4 => ?_⟩
      refine ⟨d, d4, L, _, 2 ^ 37 * 2 ^ i, 2 ^ 37 * 2 ^ i, rfl, hL3.same s4, hL4, hlen, by rw [List.length_map]; exact hlen, hO3.bd, fun p hp => ?_, ?_, fun d5 H5 L5 s5 hL5 hS => ?_⟩
      · obtain ⟨z, hz, rfl⟩ := List.mem_map.mp hp
        exact hO3.bd z hz
      · have h1 : 2 ^ 37 * 2 ^ i ≤ 2 ^ 37 * 2 ^ 3 := Nat.mul_le_mul_left _ p3
        have h2 : 2 ^ 37 * 2 ^ 3 + 2 ^ 37 * 2 ^ 3 < 2 ^ 250 := by decide
        omega
      · refine ⟨k3.trans (Kp.of (s4.trans s5)), hw3.same (s4.trans s5), d5, L5, some (.int (0 + (i : Int))), rfl, hL5, ?_⟩
        have h6 := less_ok hO3 hS hL5.nd
        have e2 : 2 ^ (i + 1) = 2 ^ i * 2 := Nat.pow_succ 2 i
        rw [e2, ← Nat.mul_assoc, ← Nat.mul_assoc]
        exact h6
    · rintro σ H3 ⟨k3, hw3, d, L, c, rfl, hL3, hO3⟩
      have p3 : 2 ^ r.toNat ≤ 2 ^ 3 := Nat.pow_le_pow_right (by decide) (by omega)
      have hF : FinL L := by
        refine hO3.fin ?_ ?_ ?_
        · have h1 : 2 ^ 37 * 2 ^ r.toNat ≤ 2 ^ 37 * 2 ^ 3 := Nat.mul_le_mul_left _ p3
          exact Nat.le_trans h1 (by decide)
        · omega
        · omega
      refine ⟨_, rfl, w0, 16, rfl, hw3, ⟨by decide, by decide⟩, fun r4 H4 r40 r41 hw4 k4 => ⟨rfl, _, rfl, ?_⟩⟩
      obtain ⟨y3, e3⟩ := hw3.lst
      refine ite2 (fun _ => ?_) (fun _ => ?_)
      · intro dz nz
        have sz := same_upd (o := .dK []) nz
        refine h2 _ dz [] c ((k3.trans k4).trans (Kp.of sz)) (hw4.same sz) ⟨[], ⟨upd_same, fun m hm => absurd hm List.not_mem_nil, List.nodup_nil⟩, rfl⟩ ⟨⟨fun p hp => absurd hp List.not_mem_nil, fun p hp => absurd hp List.not_mem_nil, by decide⟩, fun p hp => absurd hp List.not_mem_nil⟩
      · exact ⟨_, rfl, h2 _ d L c (k3.trans k4) hw4 (hL3.kp k4 e3) hF⟩
def spLaw (K : PySem.W.Frag) : Sp := fun vs H Q _ => ∃ (a : Addr) (ns : List Int), vs = [.ref a] ∧ SqL K H a (ns.map V.int) ∧ ∀ H', Q (.bl true) H'
theorem ok51 (T : Tops K mg) : FnG P w K mg base 8 (T.fa 51) (T.fd 51) ["_law_script"] (spLaw K) := by
  refine FnG.of T.d51.F sc51 (fun vs H Q E h => ?_) (fun cdv A outer s H vs Q E hG hr h => ?_)
  · obtain ⟨_, _, rfl, _⟩ := h
    rfl
  · obtain ⟨a, ns, rfl, ha, q⟩ := h
    have hr1 := hr.mono (show 1 ≤ 7 by decide)
    refine ⟨_, pss_one (ps_ret (pe_callB (cr_all rfl) (by rfl) T.z_all boot_all (pa_cons (pe_lc (own := [("_law_turn", 1)]) (g := gName 1) (tt := tYes) (by rfl) sc51.nd (pi_range1 (by rfl) T.z_range (pa_cons (pe_callD T.d31 (ok31 T) hr1 (pa_cons (pv 0) pa_nil)) pa_nil))
      (blkOk_by (N := ["_law_script", "_law_turn"]) (sc := defScope s51) (by decide +kernel)) (fun _ _ _ _ _ => pg_name (i := 1) sc51.nd rfl (Or.inl rfl)) (fun _ _ _ _ _ => pts_nil)
      (fun _ _ _ _ _ => pe_callG (ok50 T) hG hr (by rfl) T.d50.m T.d50.F.kp T.d50.b (pa_cons (pe_callD T.d28 (ok28 T) hr1 (pa_cons (pv 0) (pa_cons (pv 1) pa_nil))) pa_nil))) pa_nil))), ?_⟩
    refine ⟨_, rfl, a, ns, rfl, ha, fun r r0 r1 => ⟨r, rfl, by omega, by omega, fun D nD => ?_⟩⟩
    refine lc_itY (walk_range (lo := 0) (n := r.toNat)) (fun i H1 => Same H H1 ∧ H1 D = some (.lst (List.replicate i (.bl true)))) ⟨same_upd nD, upd_same⟩ (fun _ _ _ _ => trivial) ?_ ?_
    · rintro i x H1 H2 hi ⟨s1, hD⟩ ⟨rfl, rfl⟩
      refine ⟨rfl, _, rfl, _, rfl, a, ns, _, rfl, s1.seq ha, ⟨by omega, by omega⟩, fun p H3 np s3 hw3 => ?_⟩
      refine ⟨p, rfl, hw3, fun H4 k4 => ?_⟩
      have kb : ∀ b o, H2 b = some o → H4 b = some o := fun b o e => k4 _ _ (s3 _ _ e) (ne_of_none e np)
      refine ⟨_, kb _ _ hD, small1000 (by rw [List.length_replicate]; omega), fun b o e => ?_, ?_⟩
      · rw [upd_ne (ne_of_none e nD)]
        exact kb _ _ (s1 _ _ e)
      · rw [upd_same, ← List.replicate_succ']
    · rintro H1 ⟨s1, hD⟩
      refine ⟨D, List.replicate r.toNat true, rfl, SqL.of (by rw [hD, List.map_replicate]), ?_⟩
      have ea : (List.replicate r.toNat true).all id = true := by rw [List.all_eq_true]; intro z hz; exact (List.mem_replicate.mp hz).2
      rw [ea]
      exact q H1
end
end K42

set_option Elab.async false
set_option linter.all false
set_option maxRecDepth 100000
set_option maxHeartbeats 4000000
namespace K42
open PySem PySem.Spec PyProof.Rows L2
/-! ### what the top has left -/
/-- a def by its name, as the written part holds it -/
structure DefIn (K : PySem.W.Frag) (x : Str) (st : Stmt) : Prop where
  ex : ∃ (f : Addr) (oc : Value) (od an : Option Addr) (sl : Array (Option Value)) (kV dc pm cd ct : Value), PySem.W.nsIn K mainGlobals x = some (some (.ref f)) ∧
    K.lookup f = some ⟨oc, od, .func (PySem.W.fnOf x x (defArgs st) (defBody st) (defScope st) .none kV dc pm an cd ct), sl⟩ ∧ PySem.W.codeIn K cd x = true ∧ PySem.W.keepIn K (.ref f) = true
theorem defIn_mk {K : PySem.W.Frag} {x : Str} {st : Stmt} {f : Addr} {oc : Value} {od an : Option Addr} {sl : Array (Option Value)} {kV dc pm cd ct : Value} (a : PySem.W.nsIn K mainGlobals x = some (some (.ref f)))
    (l : K.lookup f = some ⟨oc, od, .func (PySem.W.fnOf x x (defArgs st) (defBody st) (defScope st) .none kV dc pm an cd ct), sl⟩) (c : PySem.W.codeIn K cd x = true) (k : PySem.W.keepIn K (.ref f) = true) : DefIn K x st :=
  ⟨⟨f, oc, od, an, sl, kV, dc, pm, cd, ct, a, l, c, k⟩⟩
theorem DefIn.at_ {K : PySem.W.Frag} {x : Str} {st : Stmt} {h : Heap} {mg : Str → Option Value} {ps : List Str} (D : DefIn K x st) (X : K.In h) (G : h.Ns mainGlobals mg)
    (hb : ∀ (kV doc pm : Value) (an : Option Addr) (cdv ct : Value) (us : List Value), us.length = ps.length → bindArgs (PySem.W.fnOf x x (defArgs st) (defBody st) (defScope st) .none kV doc pm an cdv ct) ⟨us, []⟩ = pure (ps.zip us)) :
    ∃ f fd, At K mg x st ps f fd ∧ ∀ (s : Shared) (us : List Value), us.length = ps.length → BindsTo s fd ⟨us, []⟩ (ps.zip us) := by
  obtain ⟨f, oc, od, an, sl, kV, dc, pm, cd, ct, a, l, c, k⟩ := D.ex
  have F := fun_mk (st := st) l c k
  exact ⟨f, _, ⟨F, PySem.W.mg_of X G a, F.binds hb⟩, fun s us hl => .of_eq (hb kV dc pm an cd ct us hl)⟩
structure ZeroIn (K : PySem.W.Frag) : Prop where
  ex : ∃ (za : Addr) (od : Option Addr) (t u : Tok) (n : Nat) (sl : Array (Option Value)), PySem.W.nsIn K mainGlobals "ZERO" = some (some (.ref za)) ∧ K.lookup za = some ⟨.type "tuple", od, .seq #[.int 0 t, .int 1 u] n, sl⟩
theorem zeroIn_mk {K : PySem.W.Frag} {za : Addr} {od : Option Addr} {t u : Tok} {n : Nat} {sl : Array (Option Value)} (a : PySem.W.nsIn K mainGlobals "ZERO" = some (some (.ref za))) (l : K.lookup za = some ⟨.type "tuple", od, .seq #[.int 0 t, .int 1 u] n, sl⟩) : ZeroIn K := ⟨⟨za, od, t, u, n, sl, a, l⟩⟩
structure MostIn (K : PySem.W.Frag) : Prop where
  ex : ∃ t : Tok, PySem.W.nsIn K mainGlobals "MOST_ORDER" = some (some (.int 8 t))
theorem mostIn_mk {K : PySem.W.Frag} {t : Tok} (a : PySem.W.nsIn K mainGlobals "MOST_ORDER" = some (some (.int 8 t))) : MostIn K := ⟨⟨t, a⟩⟩
theorem fin {l : PySem.W.OpenLaw} {w : World} {K : PySem.W.Frag} {h : Heap} {mg : Str → Option Value} {fa : Addr} (X : K.In h) (G : h.Ns mainGlobals mg) (hfa : mg "law" = some (.ref fa))
    (d2 : DefIn K "is_whole" s2)
    (d3 : DefIn K "is_between" s3)
    (d4 : DefIn K "are_wholes" s4)
    (d5 : DefIn K "divisor_of" s5)
    (d8 : DefIn K "is_ratio" s8)
    (d9 : DefIn K "ratio" s9)
    (d10 : DefIn K "plus" s10)
    (d11 : DefIn K "times" s11)
    (d17 : DefIn K "is_laid" s17)
    (d18 : DefIn K "check_row" s18)
    (d20 : DefIn K "place_power" s20)
    (d21 : DefIn K "power_sum" s21)
    (d22 : DefIn K "power_led" s22)
    (d25 : DefIn K "check_order" s25)
    (d26 : DefIn K "on_power" s26)
    (d28 : DefIn K "_law_well" s28)
    (d29 : DefIn K "_law_take" s29)
    (d30 : DefIn K "_law_pick" s30)
    (d31 : DefIn K "_law_rounds" s31)
    (d32 : DefIn K "_law_common" s32)
    (d33 : DefIn K "_law_ratio" s33)
    (d34 : DefIn K "_law_sum" s34)
    (d35 : DefIn K "_law_product" s35)
    (d36 : DefIn K "_law_cleared" s36)
    (d37 : DefIn K "_law_line" s37)
    (d38 : DefIn K "_law_plus" s38)
    (d39 : DefIn K "_law_scaled" s39)
    (d40 : DefIn K "_law_less" s40)
    (d41 : DefIn K "_law_later" s41)
    (d42 : DefIn K "_law_number" s42)
    (d43 : DefIn K "_law_draw" s43)
    (d44 : DefIn K "_law_power" s44)
    (d45 : DefIn K "_law_total" s45)
    (d46 : DefIn K "_law_choices" s46)
    (d47 : DefIn K "_law_polynomial" s47)
    (d48 : DefIn K "_law_made" s48)
    (d49 : DefIn K "_law_worth" s49)
    (d50 : DefIn K "_law_right" s50)
    (d51 : DefIn K "law" s51)
    (z_isinstance : PySem.W.nsIn K mainGlobals "isinstance" = some none)
    (z_int : PySem.W.nsIn K mainGlobals "int" = some none)
    (z_bool : PySem.W.nsIn K mainGlobals "bool" = some none)
    (z_tuple : PySem.W.nsIn K mainGlobals "tuple" = some none)
    (z_len : PySem.W.nsIn K mainGlobals "len" = some none)
    (z_all : PySem.W.nsIn K mainGlobals "all" = some none)
    (z_range : PySem.W.nsIn K mainGlobals "range" = some none)
    (z_enumerate : PySem.W.nsIn K mainGlobals "enumerate" = some none)
    (z_abs : PySem.W.nsIn K mainGlobals "abs" = some none)
    (z_divmod : PySem.W.nsIn K mainGlobals "divmod" = some none)
    (z_max : PySem.W.nsIn K mainGlobals "max" = some none)
    (z_min : PySem.W.nsIn K mainGlobals "min" = some none)
    (z_dict : PySem.W.nsIn K mainGlobals "dict" = some none)
    (z_list : PySem.W.nsIn K mainGlobals "list" = some none)
    (z_repr : PySem.W.nsIn K mainGlobals "repr" = some none)
    (comb : PySem.W.nsIn K mainGlobals "comb" = some (some (.builtin "math.comb"))) (gcd : PySem.W.nsIn K mainGlobals "gcd" = some (some (.builtin "math.gcd"))) (zero : ZeroIn K) (mo : MostIn K) :
    ∃ fd : FuncData, (∀ (s : Shared) (u : Value), BindsTo s fd ⟨[u], []⟩ [("_law_script", u)]) ∧ ∀ base : Heap, K.In base → base.Ns mainGlobals mg → FnG l.prog w K mg base 8 fa fd ["_law_script"] (spLaw K) := by
  obtain ⟨f2, e2, D2, B2⟩ := d2.at_ (ps := ["value"]) X G fun _ _ _ _ _ _ us hl => match us, hl with | [_], _ => rfl
  obtain ⟨f3, e3, D3, B3⟩ := d3.at_ (ps := ["value", "low", "high"]) X G fun _ _ _ _ _ _ us hl => match us, hl with | [_, _, _], _ => rfl
  obtain ⟨f4, e4, D4, B4⟩ := d4.at_ (ps := ["value", "many"]) X G fun _ _ _ _ _ _ us hl => match us, hl with | [_, _], _ => rfl
  obtain ⟨f5, e5, D5, B5⟩ := d5.at_ (ps := ["numbers"]) X G fun _ _ _ _ _ _ us hl => match us, hl with | [_], _ => rfl
  obtain ⟨f8, e8, D8, B8⟩ := d8.at_ (ps := ["value"]) X G fun _ _ _ _ _ _ us hl => match us, hl with | [_], _ => rfl
  obtain ⟨f9, e9, D9, B9⟩ := d9.at_ (ps := ["top", "low"]) X G fun _ _ _ _ _ _ us hl => match us, hl with | [_, _], _ => rfl
  obtain ⟨f10, e10, D10, B10⟩ := d10.at_ (ps := ["one", "two"]) X G fun _ _ _ _ _ _ us hl => match us, hl with | [_, _], _ => rfl
  obtain ⟨f11, e11, D11, B11⟩ := d11.at_ (ps := ["one", "two"]) X G fun _ _ _ _ _ _ us hl => match us, hl with | [_, _], _ => rfl
  obtain ⟨f17, e17, D17, B17⟩ := d17.at_ (ps := ["value"]) X G fun _ _ _ _ _ _ us hl => match us, hl with | [_], _ => rfl
  obtain ⟨f18, e18, D18, B18⟩ := d18.at_ (ps := ["value"]) X G fun _ _ _ _ _ _ us hl => match us, hl with | [_], _ => rfl
  obtain ⟨f20, e20, D20, B20⟩ := d20.at_ (ps := ["place", "order"]) X G fun _ _ _ _ _ _ us hl => match us, hl with | [_, _], _ => rfl
  obtain ⟨f21, e21, D21, B21⟩ := d21.at_ (ps := ["row", "order"]) X G fun _ _ _ _ _ _ us hl => match us, hl with | [_, _], _ => rfl
  obtain ⟨f22, e22, D22, B22⟩ := d22.at_ (ps := ["row", "order"]) X G fun _ _ _ _ _ _ us hl => match us, hl with | [_, _], _ => rfl
  obtain ⟨f25, e25, D25, B25⟩ := d25.at_ (ps := ["value"]) X G fun _ _ _ _ _ _ us hl => match us, hl with | [_], _ => rfl
  obtain ⟨f26, e26, D26, B26⟩ := d26.at_ (ps := ["row", "order"]) X G fun _ _ _ _ _ _ us hl => match us, hl with | [_, _], _ => rfl
  obtain ⟨f28, e28, D28, B28⟩ := d28.at_ (ps := ["_law_script", "_law_turn"]) X G fun _ _ _ _ _ _ us hl => match us, hl with | [_, _], _ => rfl
  obtain ⟨f29, e29, D29, B29⟩ := d29.at_ (ps := ["_law_well_here", "_law_count"]) X G fun _ _ _ _ _ _ us hl => match us, hl with | [_, _], _ => rfl
  obtain ⟨f30, e30, D30, B30⟩ := d30.at_ (ps := ["_law_well_here", "_law_some"]) X G fun _ _ _ _ _ _ us hl => match us, hl with | [_, _], _ => rfl
  obtain ⟨f31, e31, D31, B31⟩ := d31.at_ (ps := ["_law_script"]) X G fun _ _ _ _ _ _ us hl => match us, hl with | [_], _ => rfl
  obtain ⟨f32, e32, D32, B32⟩ := d32.at_ (ps := ["_law_one", "_law_two"]) X G fun _ _ _ _ _ _ us hl => match us, hl with | [_, _], _ => rfl
  obtain ⟨f33, e33, D33, B33⟩ := d33.at_ (ps := ["_law_n", "_law_m"]) X G fun _ _ _ _ _ _ us hl => match us, hl with | [_, _], _ => rfl
  obtain ⟨f34, e34, D34, B34⟩ := d34.at_ (ps := ["_law_a", "_law_b"]) X G fun _ _ _ _ _ _ us hl => match us, hl with | [_, _], _ => rfl
  obtain ⟨f35, e35, D35, B35⟩ := d35.at_ (ps := ["_law_a", "_law_b"]) X G fun _ _ _ _ _ _ us hl => match us, hl with | [_, _], _ => rfl
  obtain ⟨f36, e36, D36, B36⟩ := d36.at_ (ps := ["_law_lot"]) X G fun _ _ _ _ _ _ us hl => match us, hl with | [_], _ => rfl
  obtain ⟨f37, e37, D37, B37⟩ := d37.at_ (ps := ["_law_lot"]) X G fun _ _ _ _ _ _ us hl => match us, hl with | [_], _ => rfl
  obtain ⟨f38, e38, D38, B38⟩ := d38.at_ (ps := ["_law_one", "_law_two"]) X G fun _ _ _ _ _ _ us hl => match us, hl with | [_, _], _ => rfl
  obtain ⟨f39, e39, D39, B39⟩ := d39.at_ (ps := ["_law_lot", "_law_by"]) X G fun _ _ _ _ _ _ us hl => match us, hl with | [_, _], _ => rfl
  obtain ⟨f40, e40, D40, B40⟩ := d40.at_ (ps := ["_law_one", "_law_two"]) X G fun _ _ _ _ _ _ us hl => match us, hl with | [_, _], _ => rfl
  obtain ⟨f41, e41, D41, B41⟩ := d41.at_ (ps := ["_law_lot", "_law_by"]) X G fun _ _ _ _ _ _ us hl => match us, hl with | [_, _], _ => rfl
  obtain ⟨f42, e42, D42, B42⟩ := d42.at_ (ps := ["_law_well_here"]) X G fun _ _ _ _ _ _ us hl => match us, hl with | [_], _ => rfl
  obtain ⟨f43, e43, D43, B43⟩ := d43.at_ (ps := ["_law_well_here", "_law_most"]) X G fun _ _ _ _ _ _ us hl => match us, hl with | [_, _], _ => rfl
  obtain ⟨f44, e44, D44, B44⟩ := d44.at_ (ps := ["_law_base", "_law_count"]) X G fun _ _ _ _ _ _ us hl => match us, hl with | [_, _], _ => rfl
  obtain ⟨f45, e45, D45, B45⟩ := d45.at_ (ps := ["_law_some"]) X G fun _ _ _ _ _ _ us hl => match us, hl with | [_], _ => rfl
  obtain ⟨f46, e46, D46, B46⟩ := d46.at_ (ps := ["_law_j"]) X G fun _ _ _ _ _ _ us hl => match us, hl with | [_], _ => rfl
  obtain ⟨f47, e47, D47, B47⟩ := d47.at_ (ps := ["_law_lot", "_law_j"]) X G fun _ _ _ _ _ _ us hl => match us, hl with | [_, _], _ => rfl
  obtain ⟨f48, e48, D48, B48⟩ := d48.at_ (ps := ["_law_lot", "_law_n", "_law_j"]) X G fun _ _ _ _ _ _ us hl => match us, hl with | [_, _, _], _ => rfl
  obtain ⟨f49, e49, D49, B49⟩ := d49.at_ (ps := ["_law_numbers", "_law_n"]) X G fun _ _ _ _ _ _ us hl => match us, hl with | [_, _], _ => rfl
  obtain ⟨f50, e50, D50, B50⟩ := d50.at_ (ps := ["_law_well_here"]) X G fun _ _ _ _ _ _ us hl => match us, hl with | [_], _ => rfl
  obtain ⟨f51, e51, D51, B51⟩ := d51.at_ (ps := ["_law_script"]) X G fun _ _ _ _ _ _ us hl => match us, hl with | [_], _ => rfl
  obtain ⟨za, zod, zt, zu, zn, zsl, za1, za2⟩ := zero.ex
  obtain ⟨mt, mo1⟩ := mo.ex
  let fA : Nat → Addr := fun i => match i with
    | 2 => f2
    | 3 => f3
    | 4 => f4
    | 5 => f5
    | 8 => f8
    | 9 => f9
    | 10 => f10
    | 11 => f11
    | 17 => f17
    | 18 => f18
    | 20 => f20
    | 21 => f21
    | 22 => f22
    | 25 => f25
    | 26 => f26
    | 28 => f28
    | 29 => f29
    | 30 => f30
    | 31 => f31
    | 32 => f32
    | 33 => f33
    | 34 => f34
    | 35 => f35
    | 36 => f36
    | 37 => f37
    | 38 => f38
    | 39 => f39
    | 40 => f40
    | 41 => f41
    | 42 => f42
    | 43 => f43
    | 44 => f44
    | 45 => f45
    | 46 => f46
    | 47 => f47
    | 48 => f48
    | 49 => f49
    | 50 => f50
    | 51 => f51
    | _ => f2
  let fD : Nat → FuncData := fun i => match i with
    | 2 => e2
    | 3 => e3
    | 4 => e4
    | 5 => e5
    | 8 => e8
    | 9 => e9
    | 10 => e10
    | 11 => e11
    | 17 => e17
    | 18 => e18
    | 20 => e20
    | 21 => e21
    | 22 => e22
    | 25 => e25
    | 26 => e26
    | 28 => e28
    | 29 => e29
    | 30 => e30
    | 31 => e31
    | 32 => e32
    | 33 => e33
    | 34 => e34
    | 35 => e35
    | 36 => e36
    | 37 => e37
    | 38 => e38
    | 39 => e39
    | 40 => e40
    | 41 => e41
    | 42 => e42
    | 43 => e43
    | 44 => e44
    | 45 => e45
    | 46 => e46
    | 47 => e47
    | 48 => e48
    | 49 => e49
    | 50 => e50
    | 51 => e51
    | _ => e2
  let T : Tops K mg :=
    { fa := fA, fd := fD, d2 := D2, d3 := D3, d4 := D4, d5 := D5, d8 := D8, d9 := D9, d10 := D10, d11 := D11, d17 := D17, d18 := D18, d20 := D20, d21 := D21, d22 := D22, d25 := D25, d26 := D26, d28 := D28, d29 := D29, d30 := D30, d31 := D31, d32 := D32, d33 := D33, d34 := D34, d35 := D35, d36 := D36, d37 := D37, d38 := D38, d39 := D39, d40 := D40, d41 := D41, d42 := D42, d43 := D43, d44 := D44, d45 := D45, d46 := D46, d47 := D47, d48 := D48, d49 := D49, d50 := D50, d51 := D51,
      z_isinstance := PySem.W.mg_none_of X G z_isinstance, z_int := PySem.W.mg_none_of X G z_int, z_bool := PySem.W.mg_none_of X G z_bool, z_tuple := PySem.W.mg_none_of X G z_tuple, z_len := PySem.W.mg_none_of X G z_len, z_all := PySem.W.mg_none_of X G z_all, z_range := PySem.W.mg_none_of X G z_range, z_enumerate := PySem.W.mg_none_of X G z_enumerate, z_abs := PySem.W.mg_none_of X G z_abs, z_divmod := PySem.W.mg_none_of X G z_divmod, z_max := PySem.W.mg_none_of X G z_max, z_min := PySem.W.mg_none_of X G z_min, z_dict := PySem.W.mg_none_of X G z_dict, z_list := PySem.W.mg_none_of X G z_list, z_repr := PySem.W.mg_none_of X G z_repr,
      comb := PySem.W.mg_of X G comb, gcd := PySem.W.mg_of X G gcd, za := za, zero := PySem.W.mg_of X G za1, zeroAt := fun H => .inr ⟨_, _, _, za2, rfl, rfl, (by show 2 ≤ sizeLine; decide), .cons ⟨_, rfl⟩ (.cons ⟨_, rfl⟩ .nil)⟩, mo := ⟨mt, PySem.W.mg_of X G mo1⟩ }
  have e := hfa.symm.trans D51.m
  cases e
  exact ⟨e51, fun s u => B51 s [u] rfl, fun base _ _ => ok51 T⟩
end K42

open PySem PySem.W PyProof.Rows
set_option Elab.async false
set_option maxRecDepth 100000 in
set_option maxHeartbeats 0 in
theorem PySem.Challenge.cw_bandsplits_k42_whole_polynomials_of_powe_holds : PySem.Challenge.rw_bandsplits_k42_whole_polynomials_of_powe.Holds := by
  w_on; o_law; k_head; (case hw => w_witness2)
  k_fill
  refine K42.walk_ofG (l := PySem.Challenge.rw_bandsplits_k42_whole_polynomials_of_powe) (n := 63) (k := 8) (x := "_law_script") (sp := K42.spLaw) rfl (by decide) rfl ⟨rfl, by decide, by decide⟩ (fun w h Y => PySem.W.kIn_of Y) ?F (fun _ _ a ns _ _ hS => ⟨a, ns, rfl, hS, fun _ => rfl⟩)
  case F =>
    intro w mg fa h KX G hmg
    refine' K42.fin KX G hmg ?d2 ?d3 ?d4 ?d5 ?d8 ?d9 ?d10 ?d11 ?d17 ?d18 ?d20 ?d21 ?d22 ?d25 ?d26 ?d28 ?d29 ?d30 ?d31 ?d32 ?d33 ?d34 ?d35 ?d36 ?d37 ?d38 ?d39 ?d40 ?d41 ?d42 ?d43 ?d44 ?d45 ?d46 ?d47 ?d48 ?d49 ?d50 ?d51 ?z_isinstance ?z_int ?z_bool ?z_tuple ?z_len ?z_all ?z_range ?z_enumerate ?z_abs ?z_divmod ?z_max ?z_min ?z_dict ?z_list ?z_repr ?comb ?gcd ?zero ?mo
    (case d2 => (refine' K42.defIn_mk ?a ?l ?c ?k; (case a => k_is); (case l => k_is); (case c => k_is); (case k => k_is)))
    (case d3 => (refine' K42.defIn_mk ?a ?l ?c ?k; (case a => k_is); (case l => k_is); (case c => k_is); (case k => k_is)))
    (case d4 => (refine' K42.defIn_mk ?a ?l ?c ?k; (case a => k_is); (case l => k_is); (case c => k_is); (case k => k_is)))
    (case d5 => (refine' K42.defIn_mk ?a ?l ?c ?k; (case a => k_is); (case l => k_is); (case c => k_is); (case k => k_is)))
    (case d8 => (refine' K42.defIn_mk ?a ?l ?c ?k; (case a => k_is); (case l => k_is); (case c => k_is); (case k => k_is)))
    (case d9 => (refine' K42.defIn_mk ?a ?l ?c ?k; (case a => k_is); (case l => k_is); (case c => k_is); (case k => k_is)))
    (case d10 => (refine' K42.defIn_mk ?a ?l ?c ?k; (case a => k_is); (case l => k_is); (case c => k_is); (case k => k_is)))
    (case d11 => (refine' K42.defIn_mk ?a ?l ?c ?k; (case a => k_is); (case l => k_is); (case c => k_is); (case k => k_is)))
    (case d17 => (refine' K42.defIn_mk ?a ?l ?c ?k; (case a => k_is); (case l => k_is); (case c => k_is); (case k => k_is)))
    (case d18 => (refine' K42.defIn_mk ?a ?l ?c ?k; (case a => k_is); (case l => k_is); (case c => k_is); (case k => k_is)))
    (case d20 => (refine' K42.defIn_mk ?a ?l ?c ?k; (case a => k_is); (case l => k_is); (case c => k_is); (case k => k_is)))
    (case d21 => (refine' K42.defIn_mk ?a ?l ?c ?k; (case a => k_is); (case l => k_is); (case c => k_is); (case k => k_is)))
    (case d22 => (refine' K42.defIn_mk ?a ?l ?c ?k; (case a => k_is); (case l => k_is); (case c => k_is); (case k => k_is)))
    (case d25 => (refine' K42.defIn_mk ?a ?l ?c ?k; (case a => k_is); (case l => k_is); (case c => k_is); (case k => k_is)))
    (case d26 => (refine' K42.defIn_mk ?a ?l ?c ?k; (case a => k_is); (case l => k_is); (case c => k_is); (case k => k_is)))
    (case d28 => (refine' K42.defIn_mk ?a ?l ?c ?k; (case a => k_is); (case l => k_is); (case c => k_is); (case k => k_is)))
    (case d29 => (refine' K42.defIn_mk ?a ?l ?c ?k; (case a => k_is); (case l => k_is); (case c => k_is); (case k => k_is)))
    (case d30 => (refine' K42.defIn_mk ?a ?l ?c ?k; (case a => k_is); (case l => k_is); (case c => k_is); (case k => k_is)))
    (case d31 => (refine' K42.defIn_mk ?a ?l ?c ?k; (case a => k_is); (case l => k_is); (case c => k_is); (case k => k_is)))
    (case d32 => (refine' K42.defIn_mk ?a ?l ?c ?k; (case a => k_is); (case l => k_is); (case c => k_is); (case k => k_is)))
    (case d33 => (refine' K42.defIn_mk ?a ?l ?c ?k; (case a => k_is); (case l => k_is); (case c => k_is); (case k => k_is)))
    (case d34 => (refine' K42.defIn_mk ?a ?l ?c ?k; (case a => k_is); (case l => k_is); (case c => k_is); (case k => k_is)))
    (case d35 => (refine' K42.defIn_mk ?a ?l ?c ?k; (case a => k_is); (case l => k_is); (case c => k_is); (case k => k_is)))
    (case d36 => (refine' K42.defIn_mk ?a ?l ?c ?k; (case a => k_is); (case l => k_is); (case c => k_is); (case k => k_is)))
    (case d37 => (refine' K42.defIn_mk ?a ?l ?c ?k; (case a => k_is); (case l => k_is); (case c => k_is); (case k => k_is)))
    (case d38 => (refine' K42.defIn_mk ?a ?l ?c ?k; (case a => k_is); (case l => k_is); (case c => k_is); (case k => k_is)))
    (case d39 => (refine' K42.defIn_mk ?a ?l ?c ?k; (case a => k_is); (case l => k_is); (case c => k_is); (case k => k_is)))
    (case d40 => (refine' K42.defIn_mk ?a ?l ?c ?k; (case a => k_is); (case l => k_is); (case c => k_is); (case k => k_is)))
    (case d41 => (refine' K42.defIn_mk ?a ?l ?c ?k; (case a => k_is); (case l => k_is); (case c => k_is); (case k => k_is)))
    (case d42 => (refine' K42.defIn_mk ?a ?l ?c ?k; (case a => k_is); (case l => k_is); (case c => k_is); (case k => k_is)))
    (case d43 => (refine' K42.defIn_mk ?a ?l ?c ?k; (case a => k_is); (case l => k_is); (case c => k_is); (case k => k_is)))
    (case d44 => (refine' K42.defIn_mk ?a ?l ?c ?k; (case a => k_is); (case l => k_is); (case c => k_is); (case k => k_is)))
    (case d45 => (refine' K42.defIn_mk ?a ?l ?c ?k; (case a => k_is); (case l => k_is); (case c => k_is); (case k => k_is)))
    (case d46 => (refine' K42.defIn_mk ?a ?l ?c ?k; (case a => k_is); (case l => k_is); (case c => k_is); (case k => k_is)))
    (case d47 => (refine' K42.defIn_mk ?a ?l ?c ?k; (case a => k_is); (case l => k_is); (case c => k_is); (case k => k_is)))
    (case d48 => (refine' K42.defIn_mk ?a ?l ?c ?k; (case a => k_is); (case l => k_is); (case c => k_is); (case k => k_is)))
    (case d49 => (refine' K42.defIn_mk ?a ?l ?c ?k; (case a => k_is); (case l => k_is); (case c => k_is); (case k => k_is)))
    (case d50 => (refine' K42.defIn_mk ?a ?l ?c ?k; (case a => k_is); (case l => k_is); (case c => k_is); (case k => k_is)))
    (case d51 => (refine' K42.defIn_mk ?a ?l ?c ?k; (case a => k_is); (case l => k_is); (case c => k_is); (case k => k_is)))
    (case z_isinstance => k_is)
    (case z_int => k_is)
    (case z_bool => k_is)
    (case z_tuple => k_is)
    (case z_len => k_is)
    (case z_all => k_is)
    (case z_range => k_is)
    (case z_enumerate => k_is)
    (case z_abs => k_is)
    (case z_divmod => k_is)
    (case z_max => k_is)
    (case z_min => k_is)
    (case z_dict => k_is)
    (case z_list => k_is)
    (case z_repr => k_is)
    (case comb => k_is); (case gcd => k_is)
    (case zero => (refine' K42.zeroIn_mk ?a ?l; (case a => k_is); (case l => k_is)))
    (case mo => (refine' K42.mostIn_mk ?a; (case a => k_is)))

