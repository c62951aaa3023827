import PyProof.Rows.All
import HandS.ForMost
import HandS.Wide
import HandS.IsInst
import HandS.Defaults
import HandS.Property
import HandS.Conv
import HandS.TupLen
import HandS.Deep
import Wide.All
import OpenK.AllK
import Wide.FinOn
import HandS.HeadHook2
import HandS.HeadHook4
import PySem.Challenge.RW_hushedwires_k79_whole_words_by_their_ord
import HandS.Head2
import HandS.HeadEnd
import HandS.Style
import HandS.TupAny
import KE.KRevSl
import HandS.Small
import OpenK.KOps
import KE.GoesMore
import KE.KEqDeep
import HandS.Flow
import KE.KDictDisplayH
import HandS.DictComp
import HandS.DictSubView
import PyProof.SumAny
import KE.KDictSum
import HandS.Sort
import HandS.MapSum
import HandS.DictTup
import HandS.GenList
import HandS.GenYield
import KE.KeyNested
import KE.SortData
set_option linter.all false
/-! M1: ratios: what the program's own reckoning gives, over core's Rat. Plain Lean. -/
namespace K79

theorem ediv_nat (a b : Nat) : ((a : Int) / (b : Int)) = ((a / b : Nat) : Int) := rfl
/-- the greatest common divisor, as the loop leaves it -/
theorem gcd_step (a b : Nat) : Nat.gcd a b = Nat.gcd b (a % b) := by
  rw [Nat.gcd_comm a b, Nat.gcd_rec b a, Nat.gcd_comm]
theorem divInt_pos {t b : Int} (hb : 0 < b) : (Rat.divInt t b).num = t / (Nat.gcd t.natAbs b.natAbs : Nat) ∧ ((Rat.divInt t b).den : Int) = b / (Nat.gcd t.natAbs b.natAbs : Nat) := by
  have hg : b.gcd t = Nat.gcd t.natAbs b.natAbs := by rw [Int.gcd_comm]; rfl
  constructor
  · rw [Rat.num_divInt, hg, Int.sign_eq_one_of_pos hb, Int.one_mul]
  · rw [Rat.den_divInt, if_neg (by omega), hg]
    have e : b = (b.natAbs : Int) := by omega
    conv => rhs; rw [e]
    rfl
/-- size: top and bottom below 2 ^ n -/
def Sz (n : Nat) (q : Rat) : Prop := q.num.natAbs < 2 ^ n ∧ q.den < 2 ^ n
theorem Sz.pos {n : Nat} {q : Rat} (h : Sz n q) : 0 < n := by
  have := q.den_pos
  have h2 := h.2
  cases n with
  | zero => simp at h2; omega
  | succ n => omega
theorem Sz.mono {m n : Nat} {q : Rat} (h : Sz m q) (l : m ≤ n) : Sz n q := by
  have : 2 ^ m ≤ 2 ^ n := Nat.pow_le_pow_right (by decide) l
  exact ⟨by have := h.1; omega, by have := h.2; omega⟩
theorem divInt_size {t b : Int} {n : Nat} (hb : 0 < b) (h1 : t.natAbs < 2 ^ n) (h2 : b.natAbs < 2 ^ n) : Sz n (Rat.divInt t b) := by
  obtain ⟨e1, e2⟩ := divInt_pos (t := t) hb
  have hg : 0 < Nat.gcd t.natAbs b.natAbs := Nat.gcd_pos_of_pos_right _ (by omega)
  constructor
  · rw [e1]
    refine Nat.lt_of_le_of_lt ?_ h1
    rw [Int.natAbs_ediv_of_dvd (by exact Int.ofNat_dvd_left.mpr (Nat.gcd_dvd_left _ _))]
    exact Nat.div_le_self _ _
  · have : ((Rat.divInt t b).den : Int).natAbs ≤ b.natAbs := by
      rw [e2, Int.natAbs_ediv_of_dvd (by exact Int.ofNat_dvd_left.mpr (Nat.gcd_dvd_right _ _))]
      exact Nat.div_le_self _ _
    have e3 : ((Rat.divInt t b).den : Int).natAbs = (Rat.divInt t b).den := by simp
    omega
theorem add_divInt (a b : Rat) : a + b = Rat.divInt (a.num * b.den + b.num * a.den) (a.den * b.den) := by
  have ha := a.den_nz
  have hb := b.den_nz
  conv => lhs; rw [← Rat.num_divInt_den a, ← Rat.num_divInt_den b]
  rw [Rat.divInt_add_divInt _ _ (by omega) (by omega)]
theorem mul_divInt (a b : Rat) : a * b = Rat.divInt (a.num * b.num) (a.den * b.den) := by
  have ha := a.den_nz
  have hb := b.den_nz
  conv => lhs; rw [← Rat.num_divInt_den a, ← Rat.num_divInt_den b]
  rw [Rat.divInt_mul_divInt]
theorem lt_mul_pow {a b : Nat} {m n : Nat} (ha : a < 2 ^ m) (hb : b < 2 ^ n) : a * b < 2 ^ (m + n) := by
  rw [Nat.pow_add]
  exact Nat.mul_lt_mul'' ha hb
theorem add_tops {a b : Rat} {m n : Nat} (ha : Sz m a) (hb : Sz n b) : (a.num * b.den + b.num * a.den).natAbs < 2 ^ (m + n + 1) := by
  have h1 := lt_mul_pow ha.1 hb.2
  have h2 := lt_mul_pow hb.1 ha.2
  have e1 : (a.num * b.den).natAbs = a.num.natAbs * b.den := by rw [Int.natAbs_mul]; simp
  have e2 : (b.num * a.den).natAbs = b.num.natAbs * a.den := by rw [Int.natAbs_mul]; simp
  have h3 := Int.natAbs_add_le (a.num * b.den) (b.num * a.den)
  rw [Nat.pow_succ]
  rw [Nat.add_comm n m] at h2
  omega
theorem dens {a b : Rat} {m n : Nat} (ha : Sz m a) (hb : Sz n b) : ((a.den : Int) * (b.den : Int)).natAbs < 2 ^ (m + n) := by
  rw [Int.natAbs_mul]
  simpa using lt_mul_pow ha.2 hb.2
theorem dens_pos (a b : Rat) : 0 < (a.den : Int) * (b.den : Int) := by
  have h1 := a.den_pos
  have h2 := b.den_pos
  exact Int.mul_pos (by omega) (by omega)
theorem Sz.add {a b : Rat} {m n : Nat} (ha : Sz m a) (hb : Sz n b) : Sz (m + n + 1) (a + b) := by
  rw [add_divInt]
  refine divInt_size (dens_pos a b) (add_tops ha hb) ?_
  have := dens ha hb
  rw [Nat.pow_succ]
  omega
theorem Sz.mul {a b : Rat} {m n : Nat} (ha : Sz m a) (hb : Sz n b) : Sz (m + n) (a * b) := by
  rw [mul_divInt]
  refine divInt_size (dens_pos a b) ?_ (dens ha hb)
  rw [Int.natAbs_mul]
  exact lt_mul_pow ha.1 hb.1
theorem Sz.neg {a : Rat} {m : Nat} (ha : Sz m a) : Sz m (-a) := ⟨by rw [Rat.neg_num]; simpa using ha.1, by rw [Rat.neg_den]; exact ha.2⟩
theorem Sz.zero : Sz 1 (0 : Rat) := by constructor <;> decide
theorem Sz.one : Sz 1 (1 : Rat) := by constructor <;> decide
theorem Sz.pow {a : Rat} {m : Nat} (ha : Sz m a) (n : Nat) : Sz (n * m + 1) (a ^ n) := by
  induction n with
  | zero => rw [Rat.pow_zero]; simpa using Sz.one
  | succ n ih =>
    rw [Rat.pow_succ]
    refine (ih.mul ha).mono ?_
    rw [Nat.add_mul]
    omega
/-- the sum, from the left -/
def sumQ (l : List Rat) : Rat := l.foldl (· + ·) 0
theorem sumQ_snoc (l : List Rat) (q : Rat) : sumQ (l ++ [q]) = sumQ l + q := by
  unfold sumQ
  rw [List.foldl_append]
  rfl
theorem Sz.sum {l : List Rat} {c : Nat} (h : ∀ q ∈ l, Sz c q) : ∀ n, Sz (n * (c + 1) + 1) (sumQ (l.take n)) := by
  intro n
  induction n with
  | zero => simpa [sumQ] using Sz.zero
  | succ n ih =>
    rw [List.take_add_one]
    cases e : l[n]? with
    | none =>
      simp only [Option.toList_none, List.append_nil]
      refine ih.mono ?_
      rw [Nat.add_mul]
      omega
    | some q =>
      simp only [Option.toList_some]
      rw [sumQ_snoc]
      refine (ih.add (h q (List.mem_of_getElem? e))).mono ?_
      rw [Nat.add_mul]
      omega
theorem Sz.sum' {l : List Rat} {c : Nat} (h : ∀ q ∈ l, Sz c q) : Sz (l.length * (c + 1) + 1) (sumQ l) := by
  have := Sz.sum h l.length
  rwa [List.take_length] at this
/-- what compare gives -/
def cmpQ (a b : Rat) : Int := if a < b then -1 else if a = b then 0 else 1
theorem gap_zero (a b : Rat) : a.num * b.den - b.num * a.den = 0 ↔ a = b := by
  constructor
  · intro h
    have e : a.num * b.den = b.num * a.den := by omega
    rw [← Rat.num_divInt_den a, ← Rat.num_divInt_den b]
    have ha := a.den_nz
    have hb := b.den_nz
    exact (Rat.divInt_eq_divInt_iff (by omega) (by omega)).mpr e
  · intro h
    subst h
    omega
theorem gap_pos (a b : Rat) : 0 < a.num * b.den - b.num * a.den ↔ b < a := by
  rw [Rat.lt_iff]
  omega
theorem cmp_of_gap (a b : Rat) : (if a.num * b.den - b.num * a.den = 0 then 0 else if 0 < a.num * b.den - b.num * a.den then 1 else -1) = cmpQ a b := by
  unfold cmpQ
  by_cases h : a = b
  · rw [if_pos ((gap_zero a b).mpr h), if_neg (by subst h; exact Rat.lt_irrefl), if_pos h]
  · rw [if_neg (fun z => h ((gap_zero a b).mp z)), if_neg h]
    by_cases h2 : b < a
    · rw [if_pos ((gap_pos a b).mpr h2), if_neg (fun z => Rat.not_lt.mpr (Rat.le_of_lt z) h2)]
    · rw [if_neg (fun z => h2 ((gap_pos a b).mp z)), if_pos]
      have h3 : a ≤ b := Rat.not_lt.mp h2
      exact Rat.lt_of_le_of_ne h3 h
end K79
set_option linter.all false
/-! M2: common bottoms, whole columns. Plain Lean. -/
namespace K79
/-- the common bottom, as the loop makes it -/
def botF (l : List Rat) : Nat := l.foldl (fun b q => b / Nat.gcd b q.den * q.den) 1
theorem botF_snoc (l : List Rat) (q : Rat) : botF (l ++ [q]) = botF l / Nat.gcd (botF l) q.den * q.den := by
  unfold botF
  rw [List.foldl_append]
  rfl
theorem lcm_form (b d : Nat) : b / Nat.gcd b d * d = Nat.lcm b d := by
  unfold Nat.lcm
  rw [Nat.div_mul_right_comm (Nat.gcd_dvd_left b d)]
theorem botF_take {l : List Rat} {n : Nat} {q : Rat} (e : l[n]? = some q) : botF (l.take (n + 1)) = botF (l.take n) / Nat.gcd (botF (l.take n)) q.den * q.den := by
  rw [List.take_add_one, e, Option.toList_some, botF_snoc]
theorem botF_pos (l : List Rat) : ∀ n, 0 < botF (l.take n) := by
  intro n
  induction n with
  | zero => show 0 < botF []; exact Nat.one_pos
  | succ n ih =>
    cases e : l[n]? with
    | none => rw [List.take_add_one, e]; simpa using ih
    | some q =>
      rw [botF_take e, lcm_form]
      exact Nat.lcm_pos ih q.den_pos
theorem botF_le {l : List Rat} {c : Nat} (h : ∀ q ∈ l, Sz c q) : ∀ n, botF (l.take n) ≤ 2 ^ (n * c) := by
  intro n
  induction n with
  | zero => show botF [] ≤ _; rw [Nat.zero_mul]; exact Nat.le_refl _
  | succ n ih =>
    cases e : l[n]? with
    | none =>
      rw [List.take_add_one, e]
      simp only [Option.toList_none, List.append_nil]
      exact Nat.le_trans ih (Nat.pow_le_pow_right (by decide) (by rw [Nat.add_mul]; omega))
    | some q =>
      rw [botF_take e, Nat.add_mul, Nat.one_mul, Nat.pow_add]
      have h1 := (h q (List.mem_of_getElem? e)).2
      exact Nat.mul_le_mul (Nat.le_trans (Nat.div_le_self _ _) ih) (by omega)
theorem botF_dvd {l : List Rat} : ∀ (n j : Nat) {q : Rat}, j < n → l[j]? = some q → q.den ∣ botF (l.take n) := by
  intro n
  induction n with
  | zero => intro j q h; omega
  | succ n ih =>
    intro j q hj e
    cases e2 : l[n]? with
    | none =>
      have l1 := (List.getElem?_eq_some_iff.mp e).1
      have l2 := List.getElem?_eq_none_iff.mp e2
      rw [List.take_add_one, e2]
      simp only [Option.toList_none, List.append_nil]
      exact ih j (by omega) e
    | some r =>
      rw [botF_take e2, lcm_form]
      rcases Nat.lt_succ_iff_lt_or_eq.mp hj with z | z
      · exact Nat.dvd_trans (ih j z e) (Nat.dvd_lcm_left _ _)
      · subst z
        rw [e] at e2
        cases e2
        exact Nat.dvd_lcm_right _ _
theorem mul_den (q : Rat) : q * ((q.den : Nat) : Rat) = ((q.num : Int) : Rat) := by
  have h : (q * ((q.den : Nat) : Rat)) = Rat.divInt (q.num * (q.den : Int)) (q.den * 1) := mul_divInt q ((q.den : Nat) : Rat)
  rw [h, Int.mul_one]
  have hd : (q.den : Int) ≠ 0 := by have := q.den_nz; omega
  have e : ((q.num : Int) : Rat) = Rat.divInt q.num 1 := by
    have := Rat.num_divInt_den ((q.num : Int) : Rat)
    exact this.symm
  rw [e]
  exact (Rat.divInt_eq_divInt_iff hd (by decide)).mpr (by omega)
/-- whole numbers for ratios: the same, times the bottom -/
def colF (l : List Rat) : List Int := l.map fun q => q.num * ((botF l / q.den : Nat) : Int)
theorem colF_at {l : List Rat} {n : Nat} {q : Rat} (e : l[n]? = some q) : ((q.num * ((botF l / q.den : Nat) : Int) : Int) : Rat) = q * (botF l : Nat) := by
  have hd : q.den ∣ botF l := by
    have := botF_dvd l.length n ((List.getElem?_eq_some_iff.mp e).1) e
    rwa [List.take_length] at this
  obtain ⟨k, hk⟩ := hd
  rw [hk, Nat.mul_div_cancel_left _ q.den_pos]
  rw [Rat.intCast_mul, Rat.natCast_mul]
  rw [← Rat.mul_assoc, mul_den]
  rfl
theorem botF_pos' (l : List Rat) : 0 < botF l := by
  have := botF_pos l l.length
  rwa [List.take_length] at this
end K79
set_option Elab.async false
set_option linter.all false
set_option maxRecDepth 100000
/-! KA: the typed walk, its heart: pure heap S within the heap H, owned objects, types, the judgements of expressions, tests, arguments, blocks. -/
namespace K79
open PySem L2

/-! ### heaps -/
/-- nothing stands there, or a tuple (which never changes) -/
def Fre (H : Hp) (b : Addr) : Prop := H b = none ∨ ∃ xs, H b = some (.tup xs)
theorem Fre.back {H H' : Hp} {b : Addr} (h : Same H H') (f : Fre H' b) : Fre H b := by
  cases q : H b with
  | none => exact .inl q
  | some o =>
    rcases f with f | ⟨xs, f⟩
    · rw [h b o q] at f; cases f
    · rw [h b o q] at f; cases f; exact .inr ⟨xs, q⟩
/-- from (S, H) to (S', H'): S the part whose facts are kept for good, H all that is tracked -/
structure Grow (S H S' H' : Hp) : Prop where
  s : Same S S'
  i : Same S' H'
  h : Same H H'
  f : ∀ b o, S' b = some o → S b = none → Fre H b
theorem Grow.refl {S H : Hp} (i : Same S H) : Grow S H S H := ⟨Same.refl _, i, Same.refl _, fun b o e n => by rw [e] at n; cases n⟩
theorem Grow.trans {S H S1 H1 S2 H2 : Hp} (a : Grow S H S1 H1) (b : Grow S1 H1 S2 H2) : Grow S H S2 H2 := by
  refine ⟨a.s.trans b.s, b.i, a.h.trans b.h, fun c o e n => ?_⟩
  cases q : S1 c with
  | some o1 => exact a.f c o1 q n
  | none => exact (b.f c o e q).back a.h
theorem same_upd {S : Hp} {p : Addr} {o : HO} (h : S p = none) : Same S (upd S p o) := fun b u e => by
  rw [upd_ne (ne_of_none e h)]
  exact e
theorem upd_both {S H : Hp} {p : Addr} {o : HO} (i : Same S H) : Same (upd S p o) (upd H p o) := fun b u e => by
  by_cases hb : b = p
  · rw [hb, upd_same] at e ⊢
    exact e
  · rw [upd_ne hb] at e ⊢
    exact i b u e
theorem Grow.new {S H : Hp} {p : Addr} {o : HO} (i : Same S H) (h : H p = none) : Grow S H (upd S p o) (upd H p o) := by
  refine ⟨same_upd (i.free h), upd_both i, same_upd h, fun b u e n => ?_⟩
  by_cases hb : b = p
  · rw [hb]; exact .inl h
  · rw [upd_ne hb, n] at e
    cases e

/-! ### types -/
structure Ty where
  p : V → Hp → Prop
  m : ∀ {v : V} {S S' : Hp}, Same S S' → p v S → p v S'
def Ty.le (T U : Ty) : Prop := ∀ v S, T.p v S → U.p v S
theorem Ty.le_refl (T : Ty) : T.le T := fun _ _ h => h
/-- pointwise -/
inductive All2 : List Ty → List V → Hp → Prop
  | nil {S : Hp} : All2 [] [] S
  | cons {T : Ty} {ts : List Ty} {v : V} {vs : List V} {S : Hp} : T.p v S → All2 ts vs S → All2 (T :: ts) (v :: vs) S
theorem All2.m {ts : List Ty} {vs : List V} {S S' : Hp} (e : Same S S') (h : All2 ts vs S) : All2 ts vs S' := by
  induction h with
  | nil => exact .nil
  | cons h _ ih => exact .cons (Ty.m _ e h) (ih e)
theorem All2.len {ts : List Ty} {vs : List V} {S : Hp} (h : All2 ts vs S) : ts.length = vs.length := by
  induction h with
  | nil => rfl
  | cons _ _ ih => simp [ih]
theorem All2.get {ts : List Ty} {vs : List V} {S : Hp} (h : All2 ts vs S) : ∀ {i : Nat} {T : Ty}, ts[i]? = some T → ∃ v, vs[i]? = some v ∧ T.p v S := by
  induction h with
  | nil => intro i T e; simp at e
  | cons h _ ih =>
    intro i T e
    cases i with
    | zero =>
      have e2 := Option.some.inj (by simpa using e)
      subst e2
      exact ⟨_, by simp, h⟩
    | succ i =>
      obtain ⟨v, e2, h2⟩ := ih (i := i) (T := T) (by simpa using e)
      exact ⟨v, by simpa using e2, h2⟩
theorem All2.getV {ts : List Ty} {vs : List V} {S : Hp} (h : All2 ts vs S) : ∀ {i : Nat} {v : V}, vs[i]? = some v → ∃ T, ts[i]? = some T ∧ T.p v S := by
  induction h with
  | nil => intro i T e; simp at e
  | cons h _ ih =>
    intro i v e
    cases i with
    | zero =>
      have e2 := Option.some.inj (by simpa using e)
      subst e2
      exact ⟨_, by simp, h⟩
    | succ i =>
      obtain ⟨T, e2, h2⟩ := ih (i := i) (v := v) (by simpa using e)
      exact ⟨T, by simpa using e2, h2⟩
theorem All2.append {ts us : List Ty} {vs ws : List V} {S : Hp} (h : All2 ts vs S) (k : All2 us ws S) : All2 (ts ++ us) (vs ++ ws) S := by
  induction h with
  | nil => exact k
  | cons h _ ih => exact .cons h (ih k)
theorem All2.reverse {ts : List Ty} {vs : List V} {S : Hp} (h : All2 ts vs S) : All2 ts.reverse vs.reverse S := by
  induction h with
  | nil => exact .nil
  | cons h _ ih =>
    rw [List.reverse_cons, List.reverse_cons]
    exact ih.append (.cons h .nil)
theorem All2.drop {ts : List Ty} {vs : List V} {S : Hp} (h : All2 ts vs S) : ∀ n, All2 (ts.drop n) (vs.drop n) S := by
  induction h with
  | nil => intro n; simp; exact .nil
  | cons h t ih =>
    intro n
    cases n with
    | zero => exact .cons h t
    | succ n => exact ih n
theorem All2.take {ts : List Ty} {vs : List V} {S : Hp} (h : All2 ts vs S) : ∀ n, All2 (ts.take n) (vs.take n) S := by
  induction h with
  | nil => intro n; simp; exact .nil
  | cons h t ih =>
    intro n
    cases n with
    | zero => exact .nil
    | succ n => exact .cons h (ih n)
theorem All2.le {ts us : List Ty} {vs : List V} {S : Hp} (h : All2 ts vs S) : ts.length = us.length → (∀ (i : Nat) T U, ts[i]? = some T → us[i]? = some U → T.le U) → All2 us vs S := by
  intro hl hle
  induction h generalizing us with
  | nil =>
    cases us with
    | nil => exact .nil
    | cons _ _ => simp at hl
  | cons h _ ih =>
    cases us with
    | nil => simp at hl
    | cons U us =>
      refine .cons (hle 0 _ _ rfl rfl _ _ h) (ih (by simpa using hl) fun i T U' e1 e2 => hle (i + 1) T U' (by simpa using e1) (by simpa using e2))

/-- the value v itself -/
def tV (x : V) : Ty := ⟨fun v _ => v = x, fun _ h => h⟩
abbrev tI (i : Int) : Ty := tV (.int i)
abbrev tBl (b : Bool) : Ty := tV (.bl b)
abbrev tNo : Ty := tV .non
def tAny : Ty := ⟨fun _ _ => True, fun _ h => h⟩
/-- for some x -/
def tEx {α : Type} (f : α → Ty) : Ty := ⟨fun v S => ∃ x, (f x).p v S, fun e ⟨x, h⟩ => ⟨x, (f x).m e h⟩⟩
def tWhen (T : Ty) (P : Prop) : Ty := ⟨fun v S => T.p v S ∧ P, fun e ⟨h, q⟩ => ⟨T.m e h, q⟩⟩
section
variable (K : PySem.W.Frag)
theorem same_l {K : PySem.W.Frag} {H H' : Hp} {a : Addr} {xs : List V} (e : Same H H') (h : SqL K H a xs) : SqL K H' a xs := by
  rcases h with (h | ⟨o, h⟩) | h
  · exact .inl (.inl (e _ _ h))
  · exact .inl (.inr ⟨o, e _ _ h⟩)
  · exact .inr h
theorem same_t {K : PySem.W.Frag} {H H' : Hp} {a : Addr} {xs : List V} (e : Same H H') (h : SqT K H a xs) : SqT K H' a xs := by
  rcases h with (h | ⟨o, h⟩) | h
  · exact .inl (.inl (e _ _ h))
  · exact .inl (.inr ⟨o, e _ _ h⟩)
  · exact .inr h
def tTup (ts : List Ty) : Ty := ⟨fun v S => ∃ a vs, v = .ref a ∧ SqT K S a vs ∧ All2 ts vs S, fun e ⟨a, vs, h1, h2, h3⟩ => ⟨a, vs, h1, same_t e h2, h3.m e⟩⟩
def tLst (ts : List Ty) : Ty := ⟨fun v S => ∃ a vs, v = .ref a ∧ SqL K S a vs ∧ All2 ts vs S, fun e ⟨a, vs, h1, h2, h3⟩ => ⟨a, vs, h1, same_l e h2, h3.m e⟩⟩
/-- a list or a tuple -/
def tSeq (ts : List Ty) : Ty := ⟨fun v S => (tLst K ts).p v S ∨ (tTup K ts).p v S, fun e h => h.elim (fun h => .inl ((tLst K ts).m e h)) fun h => .inr ((tTup K ts).m e h)⟩
end
/-- a tuple of ints that the call made: a key of a dict -/
def tRow (r : List Int) : Ty := ⟨fun v S => ∃ a, v = .ref a ∧ S a = some (.tup (r.map V.int)), fun e ⟨a, h1, h2⟩ => ⟨a, h1, e _ _ h2⟩⟩

/-! ### the names, the owned objects -/
abbrev Env := List (Option Ty)
structure EnvOk (Γ : Env) (σ : L2.St) (S : Hp) : Prop where
  len : σ.length = Γ.length
  at_ : ∀ (i : Nat) (T : Ty), Γ[i]? = some (some T) → ∃ v, σ[i]? = some (some v) ∧ T.p v S
theorem EnvOk.m {Γ : Env} {σ : L2.St} {S S' : Hp} (h : EnvOk Γ σ S) (e : Same S S') : EnvOk Γ σ S' := ⟨h.len, fun i T q => let ⟨v, h1, h2⟩ := h.at_ i T q; ⟨v, h1, T.m e h2⟩⟩
theorem EnvOk.set {Γ : Env} {σ : L2.St} {S : Hp} (h : EnvOk Γ σ S) (i : Nat) {v : V} {T : Ty} (hv : T.p v S) : EnvOk (Γ.set i (some T)) (σ.set i (some v)) S := by
  refine ⟨by simp [h.len], fun j U e => ?_⟩
  by_cases hj : i = j
  · subst hj
    by_cases hi : i < Γ.length
    · rw [List.getElem?_set_self hi] at e
      cases e
      exact ⟨v, List.getElem?_set_self (by rw [h.len]; exact hi), hv⟩
    · rw [List.set_eq_of_length_le (by omega), List.getElem?_eq_none (by omega)] at e
      cases e
  · rw [List.getElem?_set_ne hj] at e ⊢
    exact h.at_ j U e
theorem EnvOk.unset {Γ : Env} {σ : L2.St} {S : Hp} (h : EnvOk Γ σ S) (i : Nat) {v : Option V} : EnvOk (Γ.set i none) (σ.set i v) S := by
  refine ⟨by simp [h.len], fun j U e => ?_⟩
  by_cases hj : i = j
  · subst hj
    by_cases hi : i < Γ.length
    · rw [List.getElem?_set_self hi] at e
      cases e
    · rw [List.set_eq_of_length_le (by omega), List.getElem?_eq_none (by omega)] at e
      cases e
  · rw [List.getElem?_set_ne hj] at e ⊢
    exact h.at_ j U e
/-- Γ knows at least what Δ tells -/
def EnvLe (Γ Δ : Env) : Prop := Γ.length = Δ.length ∧ ∀ (i : Nat) (U : Ty), Δ[i]? = some (some U) → ∃ T, Γ[i]? = some (some T) ∧ T.le U
theorem EnvOk.le {Γ Δ : Env} {σ : L2.St} {S : Hp} (h : EnvOk Γ σ S) (l : EnvLe Γ Δ) : EnvOk Δ σ S := ⟨h.len.trans l.1, fun i U e => by
  obtain ⟨T, e1, e2⟩ := l.2 i U e
  obtain ⟨v, e3, e4⟩ := h.at_ i T e1
  exact ⟨v, e3, e2 _ _ e4⟩⟩
theorem EnvLe.refl (Γ : Env) : EnvLe Γ Γ := ⟨rfl, fun _ U e => ⟨U, e, U.le_refl⟩⟩
theorem el_nil : EnvLe [] [] := .refl _
theorem el_no {Γ Δ : Env} {a : Option Ty} (h : EnvLe Γ Δ) : EnvLe (a :: Γ) (none :: Δ) := ⟨by simp [h.1], fun i U e => by
  cases i with
  | zero => simp at e
  | succ i => simpa using h.2 i U (by simpa using e)⟩
theorem el_le {Γ Δ : Env} {T U : Ty} (l : T.le U) (h : EnvLe Γ Δ) : EnvLe (some T :: Γ) (some U :: Δ) := ⟨by simp [h.1], fun i U' e => by
  cases i with
  | zero =>
    have e2 : U = U' := by simpa using e
    subst e2
    exact ⟨T, rfl, l⟩
  | succ i => simpa using h.2 i U' (by simpa using e)⟩
theorem el_eq {Γ Δ : Env} {T : Ty} (h : EnvLe Γ Δ) : EnvLe (some T :: Γ) (some T :: Δ) := el_le T.le_refl h

structure Own where
  p : Addr → Hp → HO → Prop
  m : ∀ {a : Addr} {S S' : Hp} {o : HO}, Same S S' → p a S o → p a S' o
  nt : ∀ {a : Addr} {S : Hp} {xs : List V}, ¬ p a S (.tup xs)
def oL (ts : List Ty) : Own := ⟨fun _ S o => ∃ vs, o = .lst vs ∧ All2 ts vs S, fun e ⟨vs, h1, h2⟩ => ⟨vs, h1, h2.m e⟩, fun ⟨_, h, _⟩ => nomatch h⟩
def oD (kvs : List (List Key × V)) : Own := ⟨fun _ _ o => o = .dT kvs, fun _ h => h, fun h => nomatch h⟩
abbrev Owns := List (Addr × Own)
structure OwnOk (O : Owns) (F S H : Hp) : Prop where
  nd : (O.map (·.1)).Nodup
  at_ : ∀ (k : Nat) (a : Addr) (w : Own), O[k]? = some (a, w) → F a = none ∧ S a = none ∧ ∃ o, H a = some o ∧ w.p a S o
theorem OwnOk.nil {F S H : Hp} : OwnOk [] F S H := ⟨by simp, fun k a w e => by simp at e⟩
theorem OwnOk.grow {O : Owns} {F S H S' H' : Hp} (h : OwnOk O F S H) (g : Grow S H S' H') : OwnOk O F S' H' := ⟨h.nd, fun k a w e => by
  obtain ⟨h1, h2, o, h3, h4⟩ := h.at_ k a w e
  refine ⟨h1, ?_, o, g.h a o h3, w.m g.s h4⟩
  cases q : S' a with
  | none => rfl
  | some u =>
    rcases g.f a u q h2 with z | ⟨xs, z⟩
    · rw [h3] at z
      cases z
    · rw [h3] at z
      cases z
      exact absurd h4 w.nt⟩

/-! ### the weakest readings -/
section
variable (X : Cx)
def wE (e : Expr) : TE := fun σ H Q => ∀ pins s, Inv X pins σ H s → wpAny (model X.prog X.w) X.A (eval e X.env) (EP X pins σ Q) X.xe s
def wT (e : Expr) : TT := fun σ H Q => ∀ pins s, Inv X pins σ H s → wpAny (model X.prog X.w) X.A (isTrue e X.env (eval e X.env)) (TP X pins σ Q) X.xe s
def wA (es : List Expr) : TA := fun σ H Q => ∀ pos pins s, Inv X pins σ H s → wpAny (model X.prog X.w) X.A (spliced (backTo pos (starEach es X.env))) (AP X pins σ Q) X.xe s
def wS (st : Stmt) : TS := fun D σ H => ∀ pins s, Inv X pins σ H s → wpAny (model X.prog X.w) X.A (exec st X.env) (SP X pins D) X.xe s
def wSs (st : List Stmt) : TS := fun D σ H => ∀ pins s, Inv X pins σ H s → wpAny (model X.prog X.w) X.A (execs st X.env) (SP X pins D) X.xe s
end
section
variable {X : Cx} {e : Expr} {es : List Expr} {st : Stmt} {sts : List Stmt} {σ : L2.St} {H : Hp}
theorem pe_w : PE X e (wE X e) := ⟨fun pins s _ _ _ I h => h pins s I⟩
theorem pt_w : PT X e (wT X e) := ⟨fun pins s _ _ _ I h => h pins s I⟩
theorem pa_w : PA X es (wA X es) := ⟨fun pos pins s _ _ _ I h => h pos pins s I⟩
theorem ps_w : PS X st (wS X st) := ⟨fun pins s _ _ _ I h => h pins s I⟩
theorem pss_w : PSs X sts (wSs X sts) := ⟨fun pins s _ _ _ I h => h pins s I⟩
theorem of_pe {t : TE} {Q : VK} (h : PE X e t) (q : t σ H Q) : wE X e σ H Q := fun pins s I => h.run pins s σ H Q I q
theorem of_pt {t : TT} {Q : Bool → Hp → Prop} (h : PT X e t) (q : t σ H Q) : wT X e σ H Q := fun pins s I => h.run pins s σ H Q I q
theorem of_pa {t : TA} {Q : List V → Hp → Prop} (h : PA X es t) (q : t σ H Q) : wA X es σ H Q := fun pos pins s I => h.run pos pins s σ H Q I q
theorem of_ps {t : TS} {D : Ends} (h : PS X st t) (q : t D σ H) : wS X st D σ H := fun pins s I => h.run pins s σ H D I q
theorem of_pss {t : TS} {D : Ends} (h : PSs X sts t) (q : t D σ H) : wSs X sts D σ H := fun pins s I => h.run pins s σ H D I q
end

/-! ### the judgements -/
/-- e has the type T -/
def ETy (X : Cx) (O : Owns) (Γ : Env) (e : Expr) (T : Ty) : Prop := ∀ (σ : L2.St) (F S H : Hp) (Q : VK), EnvOk Γ σ S → OwnOk O F S H → Same S H → (∀ v S' H', Grow S H S' H' → T.p v S' → Q v H') → wE X e σ H Q
/-- the test e answers b -/
def TTy (X : Cx) (O : Owns) (Γ : Env) (e : Expr) (b : Bool) : Prop := ∀ (σ : L2.St) (F S H : Hp) (Q : Bool → Hp → Prop), EnvOk Γ σ S → OwnOk O F S H → Same S H → (∀ S' H', Grow S H S' H' → Q b H') → wT X e σ H Q
def ATy (X : Cx) (O : Owns) (Γ : Env) (es : List Expr) (ts : List Ty) : Prop := ∀ (σ : L2.St) (F S H : Hp) (Q : List V → Hp → Prop), EnvOk Γ σ S → OwnOk O F S H → Same S H → (∀ vs S' H', Grow S H S' H' → All2 ts vs S' → Q vs H') → wA X es σ H Q
/-- a block, behind the entry (S0, H0) -/
def BTy (X : Cx) (S0 H0 : Hp) (O : Owns) (Γ : Env) (sts : List Stmt) (D : Ends) : Prop := ∀ (σ : L2.St) (S H : Hp), Grow S0 H0 S H → EnvOk Γ σ S → OwnOk O H0 S H → wSs X sts D σ H
def RetOk (S0 H0 : Hp) (R : Ty) (rt : VK) : Prop := ∀ v S H, Grow S0 H0 S H → R.p v S → rt v H

section
variable {X : Cx} {O : Owns} {Γ : Env} {e : Expr} {T U : Ty}
theorem et_le (h : ETy X O Γ e T) (l : T.le U) : ETy X O Γ e U := fun σ F S H Q g o i q => h σ F S H Q g o i fun v S' H' r t => q v S' H' r (l _ _ t)
theorem et_eq (h : ETy X O Γ e T) (l : T = U) : ETy X O Γ e U := l ▸ h
theorem tt_eq {b c : Bool} (h : TTy X O Γ e b) (l : b = c) : TTy X O Γ e c := l ▸ h
theorem et_var (i : Nat) {x : Str} {pos : Pos} (hg : Γ[i]? = some (some T) := by rfl) (hN : X.N[i]? = some x := by rfl) (hv : Vis X.env.scope x := by first | exact Or.inl rfl | exact Or.inr (Or.inl rfl) | exact Or.inr (Or.inr rfl)) (hd : (x == ("__debug__" : Str)) = false := by decide)
    (hcd : (x == ("__classdict__" : Str)) = false := by decide) : ETy X O Γ (.Name x pos) T := fun σ F S H Q g _ i1 q => by
  obtain ⟨v, h1, h2⟩ := g.at_ i T hg
  exact of_pe (pe_var hN hv hd hcd) ⟨v, h1, q v S H (.refl i1) h2⟩
theorem et_int {i j : _} {pos : Pos} : ETy X O Γ (.Constant (.int i) j pos) (tI i) := fun σ F S H Q g _ i1 q => of_pe pe_int (q _ S H (.refl i1) rfl)
theorem et_bl {i j : _} {pos : Pos} : ETy X O Γ (.Constant (.bool i) j pos) (tBl i) := fun σ F S H Q g _ i1 q => of_pe pe_bl (q _ S H (.refl i1) rfl)
theorem et_non {j : _} {pos : Pos} : ETy X O Γ (.Constant .none j pos) tNo := fun σ F S H Q g _ i1 q => of_pe pe_non (q _ S H (.refl i1) rfl)
theorem et_glob {x : Str} {v : V} {u : Value} {pos : Pos} (hm : X.mg x = some u) (r : RelV v u) (ht : ∀ S, T.p v S) (hg : Gl X x := by rfl) (hd : (x == ("__debug__" : Str)) = false := by decide) : ETy X O Γ (.Name x pos) T := fun σ F S H Q g _ i1 q =>
  of_pe (pe_glob hg hm r hd) (q v S H (.refl i1) (ht S))
theorem at_nil : ATy X O Γ [] [] := fun σ F S H Q g _ i1 q => of_pa pa_nil (q [] S H (.refl i1) .nil)
theorem at_cons {es : List Expr} {ts : List Ty} (h : ETy X O Γ e T) (r : ATy X O Γ es ts) (hs : starEach (e :: es) X.env = (false, eval e X.env) :: starEach es X.env := by rfl) : ATy X O Γ (e :: es) (T :: ts) := fun σ F S H Q g o i1 q =>
  of_pa (pa_cons pe_w pa_w hs) (h σ F S H _ g o i1 fun v S1 H1 g1 t1 => r σ F S1 H1 _ (g.m g1.s) (o.grow g1) g1.i fun vs S2 H2 g2 t2 => q _ S2 H2 (g1.trans g2) (.cons (T.m g2.s t1) t2))
end
end K79
set_option Elab.async false
set_option linter.all false
set_option maxRecDepth 100000
/-! KB: the typed walk: operators, comparisons, calls, displays, subscripts, comprehensions. -/
namespace K79
open PySem L2

section
variable {X : Cx} {O : Owns} {Γ : Env} {a b c : Expr} {T U W Z : Ty} {pos : Pos}
/-! ### operators -/
theorem et_bin {op : Operator} {r : R2} (ho : OpR X (binaryOp op) r) (ha : ETy X O Γ a T) (hb : ETy X O Γ b U)
    (hr : ∀ x y S H (Q : VK), T.p x S → U.p y S → Same S H → (∀ v S' H', Grow S H S' H' → W.p v S' → Q v H') → r x y H Q) : ETy X O Γ (.BinOp a op b pos) W := fun σ F S H Q g o i q =>
  of_pe (pe_op ho pe_w pe_w) (ha σ F S H _ g o i fun x S1 H1 g1 t1 => hb σ F S1 H1 _ (g.m g1.s) (o.grow g1) g1.i fun y S2 H2 g2 t2 =>
    hr x y S2 H2 Q (T.m g2.s t1) t2 g2.i fun v S' H' g3 w => q v S' H' ((g1.trans g2).trans g3) w)
theorem et_cmp {op : CmpOp} {r : R2} (ho : OpR X (compareOp op) r) (ha : ETy X O Γ a T) (hb : ETy X O Γ b U)
    (hr : ∀ x y S H (Q : VK), T.p x S → U.p y S → Same S H → (∀ v S' H', Grow S H S' H' → W.p v S' → Q v H') → r x y H Q) (hm : behindInMarks op b = false) : ETy X O Γ (.Compare a [op] [b] pos) W := fun σ F S H Q g o i q =>
  of_pe (pe_cmpR ho pe_w pe_w hm) (ha σ F S H _ g o i fun x S1 H1 g1 t1 => hb σ F S1 H1 _ (g.m g1.s) (o.grow g1) g1.i fun y S2 H2 g2 t2 =>
    hr x y S2 H2 Q (T.m g2.s t1) t2 g2.i fun v S' H' g3 w => q v S' H' ((g1.trans g2).trans g3) w)
theorem tt_cmp {op : CmpOp} {r : R2} {k : Bool} (ho : OpR X (compareOp op) r) (ha : ETy X O Γ a T) (hb : ETy X O Γ b U)
    (hr : ∀ x y S H (Q : VK), T.p x S → U.p y S → Same S H → (∀ v S' H', Grow S H S' H' → (tBl k).p v S' → Q v H') → r x y H Q) (hm : behindInMarks op b = false) : TTy X O Γ (.Compare a [op] [b] pos) k := fun σ F S H Q g o i q =>
  of_pt (pt_cmpR ho pe_w pe_w hm) (ha σ F S H _ g o i fun x S1 H1 g1 t1 => hb σ F S1 H1 _ (g.m g1.s) (o.grow g1) g1.i fun y S2 H2 g2 t2 =>
    hr x y S2 H2 _ (T.m g2.s t1) t2 g2.i fun v S' H' g3 w => ⟨k, w, q S' H' ((g1.trans g2).trans g3)⟩)
theorem r_I0 {f : Int → Int → V} {i j : Int} : ∀ x y S H (Q : VK), (tI i).p x S → (tI j).p y S → Same S H → (∀ v S' H', Grow S H S' H' → (tV (f i j)).p v S' → Q v H') → rI0 f x y H Q := fun x y S H Q h1 h2 e q =>
  ⟨i, j, h1, h2, q _ S H (.refl e) rfl⟩
theorem r_I {C : Int → Int → Prop} {f : Int → Int → V} {i j : Int} (hc : C i j) : ∀ x y S H (Q : VK), (tI i).p x S → (tI j).p y S → Same S H → (∀ v S' H', Grow S H S' H' → (tV (f i j)).p v S' → Q v H') → rI C f x y H Q := fun x y S H Q h1 h2 e q =>
  ⟨i, j, h1, h2, hc, q _ S H (.refl e) rfl⟩
theorem r_eq {u v : V} (hs : scal u v = true) : ∀ x y S H (Q : VK), (tV u).p x S → (tV v).p y S → Same S H → (∀ w S' H', Grow S H S' H' → (tBl (decide (u = v))).p w S' → Q w H') → rEq x y H Q := fun x y S H Q h1 h2 e q => by
  have e1 : x = u := h1
  have e2 : y = v := h2
  subst e1 e2
  exact ⟨hs, q _ S H (.refl e) rfl⟩
theorem r_ne {u v : V} (hs : scal u v = true) : ∀ x y S H (Q : VK), (tV u).p x S → (tV v).p y S → Same S H → (∀ w S' H', Grow S H S' H' → (tBl (!decide (u = v))).p w S' → Q w H') → rNe x y H Q := fun x y S H Q h1 h2 e q => by
  have e1 : x = u := h1
  have e2 : y = v := h2
  subst e1 e2
  exact ⟨hs, q _ S H (.refl e) rfl⟩
theorem et_binI {op : Operator} {C : Int → Int → Prop} {g : Int → Int → Int} {i j : Int} (ho : OpR X (binaryOp op) (rI C fun i j => .int (g i j))) (hc : C i j) (ha : ETy X O Γ a (tI i)) (hb : ETy X O Γ b (tI j)) : ETy X O Γ (.BinOp a op b pos) (tI (g i j)) :=
  et_bin ho ha hb (r_I (f := fun i j => .int (g i j)) hc)
variable {i j : Int}
theorem et_add (ha : ETy X O Γ a (tI i)) (hb : ETy X O Γ b (tI j)) : ETy X O Γ (.BinOp a .Add b pos) (tI (i + j)) := et_bin op_add ha hb (r_I0 (f := fun i j => .int (i + j)))
theorem et_sub (ha : ETy X O Γ a (tI i)) (hb : ETy X O Γ b (tI j)) : ETy X O Γ (.BinOp a .Sub b pos) (tI (i - j)) := et_bin op_sub ha hb (r_I0 (f := fun i j => .int (i - j)))
theorem et_mul (hc : CMul i j) (ha : ETy X O Γ a (tI i)) (hb : ETy X O Γ b (tI j)) : ETy X O Γ (.BinOp a .Mult b pos) (tI (i * j)) := et_binI op_mul hc ha hb
theorem et_mulW (hc : CMulW i j) (ha : ETy X O Γ a (tI i)) (hb : ETy X O Γ b (tI j)) : ETy X O Γ (.BinOp a .Mult b pos) (tI (i * j)) := et_binI op_mulW hc ha hb
theorem et_div (hc : CDivW i j) (ha : ETy X O Γ a (tI i)) (hb : ETy X O Γ b (tI j)) : ETy X O Γ (.BinOp a .FloorDiv b pos) (tI (i / j)) := et_binI op_fdivW hc ha hb
theorem et_mod (hc : 0 < j) (ha : ETy X O Γ a (tI i)) (hb : ETy X O Γ b (tI j)) : ETy X O Γ (.BinOp a .Mod b pos) (tI (i % j)) := et_binI op_mod hc ha hb
theorem et_pow (hc : CPow i j) (ha : ETy X O Γ a (tI i)) (hb : ETy X O Γ b (tI j)) : ETy X O Γ (.BinOp a .Pow b pos) (tI (i ^ j.toNat)) := et_binI op_pow hc ha hb
theorem et_shl (hc : CPow i j) (ha : ETy X O Γ a (tI i)) (hb : ETy X O Γ b (tI j)) : ETy X O Γ (.BinOp a .LShift b pos) (tI (i * 2 ^ j.toNat)) := et_binI (g := fun i j => i * 2 ^ j.toNat) op_shl hc ha hb
theorem et_shr (hc : 0 ≤ j) (ha : ETy X O Γ a (tI i)) (hb : ETy X O Γ b (tI j)) : ETy X O Γ (.BinOp a .RShift b pos) (tI (i / 2 ^ j.toNat)) := et_binI (g := fun i j => i / 2 ^ j.toNat) (C := fun _ j => 0 ≤ j) op_shr hc ha hb
theorem et_neg (ha : ETy X O Γ a (tI i)) : ETy X O Γ (.UnaryOp .USub a pos) (tI (-i)) := fun σ F S H Q g o h q =>
  of_pe (pe_un un_neg pe_w) (ha σ F S H _ g o h fun x S1 H1 g1 t1 => ⟨i, t1, q _ S1 H1 g1 rfl⟩)
/-! comparisons of ints -/
theorem et_lt (ha : ETy X O Γ a (tI i)) (hb : ETy X O Γ b (tI j)) : ETy X O Γ (.Compare a [.Lt] [b] pos) (tBl (decide (i < j))) := et_cmp op_lt ha hb (r_I0 (f := fun i j => .bl (decide (i < j)))) (nomark _)
theorem et_le' (ha : ETy X O Γ a (tI i)) (hb : ETy X O Γ b (tI j)) : ETy X O Γ (.Compare a [.LtE] [b] pos) (tBl (decide (i ≤ j))) := et_cmp op_le ha hb (r_I0 (f := fun i j => .bl (decide (i ≤ j)))) (nomark _)
theorem et_ge (ha : ETy X O Γ a (tI i)) (hb : ETy X O Γ b (tI j)) : ETy X O Γ (.Compare a [.GtE] [b] pos) (tBl (decide (j ≤ i))) := et_cmp op_ge ha hb (r_I0 (f := fun i j => .bl (decide (j ≤ i)))) (nomark _)
theorem tt_lt (ha : ETy X O Γ a (tI i)) (hb : ETy X O Γ b (tI j)) : TTy X O Γ (.Compare a [.Lt] [b] pos) (decide (i < j)) := tt_cmp op_lt ha hb (r_I0 (f := fun i j => .bl (decide (i < j)))) (nomark _)
theorem tt_le (ha : ETy X O Γ a (tI i)) (hb : ETy X O Γ b (tI j)) : TTy X O Γ (.Compare a [.LtE] [b] pos) (decide (i ≤ j)) := tt_cmp op_le ha hb (r_I0 (f := fun i j => .bl (decide (i ≤ j)))) (nomark _)
theorem tt_gt (ha : ETy X O Γ a (tI i)) (hb : ETy X O Γ b (tI j)) : TTy X O Γ (.Compare a [.Gt] [b] pos) (decide (j < i)) := tt_cmp op_gt ha hb (r_I0 (f := fun i j => .bl (decide (j < i)))) (nomark _)
theorem tt_ge (ha : ETy X O Γ a (tI i)) (hb : ETy X O Γ b (tI j)) : TTy X O Γ (.Compare a [.GtE] [b] pos) (decide (j ≤ i)) := tt_cmp op_ge ha hb (r_I0 (f := fun i j => .bl (decide (j ≤ i)))) (nomark _)
theorem dec_ii : decide (V.int i = V.int j) = decide (i = j) := by
  by_cases h : i = j
  · subst h; simp
  · rw [decide_eq_false h]; exact decide_eq_false fun e => h (V.int.inj e)
theorem tt_eq' (ha : ETy X O Γ a (tI i)) (hb : ETy X O Γ b (tI j)) : TTy X O Γ (.Compare a [.Eq] [b] pos) (decide (i = j)) := tt_eq (tt_cmp op_eq ha hb (r_eq rfl) (nomark _)) dec_ii
theorem tt_ne (ha : ETy X O Γ a (tI i)) (hb : ETy X O Γ b (tI j)) : TTy X O Γ (.Compare a [.NotEq] [b] pos) (!decide (i = j)) := tt_eq (tt_cmp op_ne ha hb (r_ne rfl) (nomark _)) (congrArg _ dec_ii)
theorem et_eqI (ha : ETy X O Γ a (tI i)) (hb : ETy X O Γ b (tI j)) : ETy X O Γ (.Compare a [.Eq] [b] pos) (tBl (decide (i = j))) := et_eq (et_cmp op_eq ha hb (r_eq rfl) (nomark _)) (by rw [dec_ii])
theorem et_neI (ha : ETy X O Γ a (tI i)) (hb : ETy X O Γ b (tI j)) : ETy X O Γ (.Compare a [.NotEq] [b] pos) (tBl (!decide (i = j))) := et_eq (et_cmp op_ne ha hb (r_ne rfl) (nomark _)) (by rw [dec_ii])
theorem dec_bb {k l : Bool} : decide (V.bl k = V.bl l) = decide (k = l) := by
  cases k <;> cases l <;> rfl
theorem tt_neB {k l : Bool} (ha : ETy X O Γ a (tBl k)) (hb : ETy X O Γ b (tBl l)) : TTy X O Γ (.Compare a [.NotEq] [b] pos) (!decide (k = l)) := tt_eq (tt_cmp op_ne ha hb (r_ne rfl) (nomark _)) (congrArg _ dec_bb)
/-- a chain lo <= x <= hi -/
theorem tt_chain {k : Int} (ha : ETy X O Γ a (tI i)) (hb : ETy X O Γ b (tI j)) (hc : ETy X O Γ c (tI k)) (hm : lastMarks [CmpOp.LtE, CmpOp.LtE] [b, c] = false := by rfl) : TTy X O Γ (.Compare a [.LtE, .LtE] [b, c] pos) (decide (i ≤ j) && decide (j ≤ k)) := fun σ F S H Q g o h q =>
  of_pt (pt_chain op_le op_le pe_w pe_w pe_w (hm := hm)) (ha σ F S H _ g o h fun x S1 H1 g1 t1 => hb σ F S1 H1 _ (g.m g1.s) (o.grow g1) g1.i fun y S2 H2 g2 t2 => by
    have e1 : x = .int i := t1
    have e2 : y = .int j := t2
    subst e1 e2
    refine ⟨i, j, rfl, rfl, _, rfl, ?_⟩
    by_cases h : i ≤ j
    · rw [decide_eq_true h]
      refine iteT (hc σ F S2 H2 _ ((g.m g1.s).m g2.s) ((o.grow g1).grow g2) g2.i fun z S3 H3 g3 t3 => ?_)
      have e3 : z = .int k := t3
      subst e3
      refine ⟨j, k, rfl, rfl, _, rfl, ?_⟩
      have := q S3 H3 ((g1.trans g2).trans g3)
      rw [decide_eq_true h, Bool.true_and] at this
      exact this
    · rw [decide_eq_false h]
      refine iteF ⟨false, rfl, ?_⟩
      have := q S2 H2 (g1.trans g2)
      rw [decide_eq_false h, Bool.false_and] at this
      exact this)
/-! ### is None -/
theorem et_isN {v : V} {j p'} (ha : ETy X O Γ a (tV v)) : ETy X O Γ (.Compare a [.Is] [.Constant .none j p'] pos) (tBl (decide (v = .non))) := fun σ F S H Q g o h q =>
  of_pe (pe_cmp (pc_isN pe_w)) (ha σ F S H _ g o h fun x S1 H1 g1 t1 => by
    have e1 : x = v := t1
    subst e1
    exact q _ S1 H1 g1 rfl)
/-- a reference is not None -/
def tRefly (T : Ty) : Prop := ∀ v S, T.p v S → ∃ a, v = .ref a
theorem et_isN_ref {j p'} (hT : tRefly T) (ha : ETy X O Γ a T) : ETy X O Γ (.Compare a [.Is] [.Constant .none j p'] pos) (tBl false) := fun σ F S H Q g o h q =>
  of_pe (pe_cmp (pc_isN pe_w)) (ha σ F S H _ g o h fun x S1 H1 g1 t1 => by
    obtain ⟨a, e⟩ := hT x S1 t1
    subst e
    exact q _ S1 H1 g1 rfl)
theorem tt_isN {v : V} {j p'} (ha : ETy X O Γ a (tV v)) : TTy X O Γ (.Compare a [.Is] [.Constant .none j p'] pos) (decide (v = .non)) := fun σ F S H Q g o h q =>
  of_pt (pt_cmp (pc_isN pe_w)) (ha σ F S H _ g o h fun x S1 H1 g1 t1 => by
    have e1 : x = v := t1
    subst e1
    exact ⟨_, rfl, q S1 H1 g1⟩)
theorem tt_isN_ref {j p'} (hT : tRefly T) (ha : ETy X O Γ a T) : TTy X O Γ (.Compare a [.Is] [.Constant .none j p'] pos) false := fun σ F S H Q g o h q =>
  of_pt (pt_cmp (pc_isN pe_w)) (ha σ F S H _ g o h fun x S1 H1 g1 t1 => by
    obtain ⟨a, e⟩ := hT x S1 t1
    subst e
    exact ⟨_, rfl, q S1 H1 g1⟩)
theorem tt_notN {v : V} {j p'} (ha : ETy X O Γ a (tV v)) : TTy X O Γ (.Compare a [.IsNot] [.Constant .none j p'] pos) (!decide (v = .non)) := fun σ F S H Q g o h q =>
  of_pt (pt_cmp (pc_notN pe_w)) (ha σ F S H _ g o h fun x S1 H1 g1 t1 => by
    have e1 : x = v := t1
    subst e1
    exact ⟨_, rfl, q S1 H1 g1⟩)
theorem tt_notN_ref {j p'} (hT : tRefly T) (ha : ETy X O Γ a T) : TTy X O Γ (.Compare a [.IsNot] [.Constant .none j p'] pos) true := fun σ F S H Q g o h q =>
  of_pt (pt_cmp (pc_notN pe_w)) (ha σ F S H _ g o h fun x S1 H1 g1 t1 => by
    obtain ⟨a, e⟩ := hT x S1 t1
    subst e
    exact ⟨_, rfl, q S1 H1 g1⟩)
/-! ### tests -/
/-- a test whatever its whole is -/
def WTy (X : Cx) (O : Owns) (Γ : Env) (e : Expr) (b : Bool) : Prop := ∃ t, PW X e t ∧ ∀ (σ : L2.St) (F S H : Hp) (Q : Bool → Hp → Prop), EnvOk Γ σ S → OwnOk O F S H → Same S H → (∀ S' H', Grow S H S' H' → Q b H') → t σ H Q
theorem tt_w {e : Expr} {k : Bool} (h : WTy X O Γ e k) : TTy X O Γ e k := fun σ F S H Q g o i q => by
  obtain ⟨t, p, r⟩ := h
  exact of_pt p.pt (r σ F S H Q g o i q)
variable {rest : List Expr} {k l : Bool}
theorem wt_and1 (ha : TTy X O Γ a k) : WTy X O Γ (.BoolOp .And [a] pos) k := ⟨_, pw_and1 pt_w, fun σ F S H Q g o i q => ha σ F S H Q g o i q⟩
theorem wt_or1 (ha : TTy X O Γ a k) : WTy X O Γ (.BoolOp .Or [a] pos) k := ⟨_, pw_or1 pt_w, fun σ F S H Q g o i q => ha σ F S H Q g o i q⟩
theorem wt_and {tl : TT} (ha : TTy X O Γ a k) (hp : k = false → PW X (.BoolOp .And (b :: rest) pos) tl) (hb : k = true → WTy X O Γ (.BoolOp .And (b :: rest) pos) l) : WTy X O Γ (.BoolOp .And (a :: b :: rest) pos) (k && l) := by
  cases k with
  | true =>
    obtain ⟨t, p, r⟩ := hb rfl
    refine ⟨_, pw_and pt_w p, fun σ F S H Q g o i q => ha σ F S H _ g o i fun S1 H1 g1 => ?_⟩
    exact iteT (r σ F S1 H1 Q (g.m g1.s) (o.grow g1) g1.i fun S2 H2 g2 => by simpa using q S2 H2 (g1.trans g2))
  | false =>
    refine ⟨_, pw_and pt_w (hp rfl), fun σ F S H Q g o i q => ha σ F S H _ g o i fun S1 H1 g1 => ?_⟩
    exact iteF (by simpa using q S1 H1 g1)
theorem wt_or {tl : TT} (ha : TTy X O Γ a k) (hp : k = true → PW X (.BoolOp .Or (b :: rest) pos) tl) (hb : k = false → WTy X O Γ (.BoolOp .Or (b :: rest) pos) l) : WTy X O Γ (.BoolOp .Or (a :: b :: rest) pos) (k || l) := by
  cases k with
  | false =>
    obtain ⟨t, p, r⟩ := hb rfl
    refine ⟨_, pw_or pt_w p, fun σ F S H Q g o i q => ha σ F S H _ g o i fun S1 H1 g1 => ?_⟩
    exact iteF (r σ F S1 H1 Q (g.m g1.s) (o.grow g1) g1.i fun S2 H2 g2 => by simpa using q S2 H2 (g1.trans g2))
  | true =>
    refine ⟨_, pw_or pt_w (hp rfl), fun σ F S H Q g o i q => ha σ F S H _ g o i fun S1 H1 g1 => ?_⟩
    exact iteT (by simpa using q S1 H1 g1)
/-- for what is never come to -/
def tDead : TT := fun _ _ _ => False
theorem pw_dead {e : Expr} : PW X e tDead := ⟨fun _ _ _ _ _ _ _ h => h.elim⟩
theorem wt_and2 (ha : TTy X O Γ a k) (hb : k = true → WTy X O Γ (.BoolOp .And (b :: rest) pos) l) : WTy X O Γ (.BoolOp .And (a :: b :: rest) pos) (k && l) := wt_and ha (fun _ => pw_dead) hb
theorem wt_or2 (ha : TTy X O Γ a k) (hb : k = false → WTy X O Γ (.BoolOp .Or (b :: rest) pos) l) : WTy X O Γ (.BoolOp .Or (a :: b :: rest) pos) (k || l) := wt_or ha (fun _ => pw_dead) hb
theorem tt_not (ha : TTy X O Γ a k) : TTy X O Γ (.UnaryOp .Not a pos) (!k) := fun σ F S H Q g o i q => of_pt (pt_not pt_w) (ha σ F S H _ g o i fun S1 H1 g1 => q S1 H1 g1)
theorem tt_val (ha : ETy X O Γ a (tBl k)) (he : ∀ whole, isTrue a X.env whole = (do let v ← whole; standAt a.pos; holding [v] (truthy v)) := by intro _; rfl) : TTy X O Γ a k := fun σ F S H Q g o i q =>
  of_pt (pt_val pe_w he) (ha σ F S H _ g o i fun x S1 H1 g1 t1 => ⟨k, t1, q S1 H1 g1⟩)
/-- an int's truth -/
theorem tt_int (ha : ETy X O Γ a (tI i)) (he : ∀ whole, isTrue a X.env whole = (do let v ← whole; standAt a.pos; holding [v] (truthy v)) := by intro _; rfl) : TTy X O Γ a (i != 0) := fun σ F S H Q g o h q =>
  of_pt (pt_truth pe_w he) (ha σ F S H _ g o h fun x S1 H1 g1 t1 => by
    have e1 : x = .int i := t1
    subst e1
    exact ⟨i != 0, rfl, q S1 H1 g1⟩)
/-! as values -/
theorem et_one {op} (ha : ETy X O Γ a T) : ETy X O Γ (.BoolOp op [a] pos) T := fun σ F S H Q g o i q => of_pe (pe_one pe_w) (ha σ F S H Q g o i q)
theorem et_and (ha : ETy X O Γ a (tBl k)) (hb : k = true → ETy X O Γ (.BoolOp .And (b :: rest) pos) (tBl l)) : ETy X O Γ (.BoolOp .And (a :: b :: rest) pos) (tBl (k && l)) := fun σ F S H Q g o i q =>
  of_pe (pe_and pe_w pe_w) (ha σ F S H _ g o i fun x S1 H1 g1 t1 => ⟨k, t1, by
    cases k with
    | true => exact iteT (hb rfl σ F S1 H1 Q (g.m g1.s) (o.grow g1) g1.i fun v S2 H2 g2 t2 => q v S2 H2 (g1.trans g2) (by simpa using t2))
    | false => exact iteF (q _ S1 H1 g1 (by simp [tV]))⟩)
theorem et_or (ha : ETy X O Γ a (tBl k)) (hb : k = false → ETy X O Γ (.BoolOp .Or (b :: rest) pos) (tBl l)) : ETy X O Γ (.BoolOp .Or (a :: b :: rest) pos) (tBl (k || l)) := fun σ F S H Q g o i q =>
  of_pe (pe_or pe_w pe_w) (ha σ F S H _ g o i fun x S1 H1 g1 t1 => ⟨k, t1, by
    cases k with
    | false => exact iteF (hb rfl σ F S1 H1 Q (g.m g1.s) (o.grow g1) g1.i fun v S2 H2 g2 t2 => q v S2 H2 (g1.trans g2) (by simpa using t2))
    | true => exact iteT (q _ S1 H1 g1 (by simp [tV]))⟩)
theorem et_not (ha : ETy X O Γ a (tBl k)) : ETy X O Γ (.UnaryOp .Not a pos) (tBl (!k)) := fun σ F S H Q g o i q =>
  of_pe (pe_not pe_w) (ha σ F S H _ g o i fun x S1 H1 g1 t1 => ⟨k, t1, q _ S1 H1 g1 rfl⟩)
theorem et_if (hc : TTy X O Γ c k) (ha : k = true → ETy X O Γ a T) (hb : k = false → ETy X O Γ b T) : ETy X O Γ (.IfExp c a b pos) T := fun σ F S H Q g o i q =>
  of_pe (pe_ifExp pt_w pe_w pe_w) (hc σ F S H _ g o i fun S1 H1 g1 => by
    cases k with
    | true => exact iteT (ha rfl σ F S1 H1 Q (g.m g1.s) (o.grow g1) g1.i fun v S2 H2 g2 t2 => q v S2 H2 (g1.trans g2) t2)
    | false => exact iteF (hb rfl σ F S1 H1 Q (g.m g1.s) (o.grow g1) g1.i fun v S2 H2 g2 t2 => q v S2 H2 (g1.trans g2) t2))
end
end K79
set_option Elab.async false
set_option linter.all false
set_option maxRecDepth 100000
/-! KC: the typed walk: displays, subscripts, attributes, calls, comprehensions. -/
namespace K79
open PySem L2

theorem sz100 {n : Nat} (h : n ≤ 100000) : n ≤ sizeLine := Nat.le_trans h (by decide)
/-- an object o at D that S does not hold is looked past -/
theorem Grow.hide {S H S2 H2 : Hp} {D : Addr} {o : HO} (ho : ∀ xs, o ≠ .tup xs) (hs : Same S H) (hD : H D = none) (g : Grow S (upd H D o) S2 H2) : ∃ H3, H2 = upd H3 D o ∧ H3 D = none ∧ Grow S H S2 H3 := by
  have e0 : (if D = D then (none : Option HO) else H2 D) = none := if_pos rfl
  have nS : S2 D = none := by
    cases q : S2 D with
    | none => rfl
    | some u =>
      rcases g.f D u q (hs.free hD) with z | ⟨xs, z⟩
      · rw [upd_same] at z
        cases z
      · rw [upd_same] at z
        cases z
        exact absurd rfl (ho xs)
  refine ⟨fun b => if b = D then none else H2 b, ?_, e0, g.s, fun b u e => ?_, fun b u e => ?_, fun b u e n => ?_⟩
  · funext b
    unfold upd
    by_cases hb : b = D
    · subst hb
      rw [if_pos rfl, g.h b o upd_same]
    · rw [if_neg hb]
      show H2 b = if b = D then none else H2 b
      rw [if_neg hb]
  · have hb : b ≠ D := fun z => by rw [z, nS] at e; cases e
    show (if b = D then none else H2 b) = some u
    rw [if_neg hb]
    exact g.i b u e
  · have hb : b ≠ D := fun z => by rw [z, hD] at e; cases e
    show (if b = D then none else H2 b) = some u
    rw [if_neg hb]
    exact g.h b u (by rw [upd_ne hb]; exact e)
  · have z := g.f b u e n
    by_cases hb : b = D
    · rw [hb]; exact .inl hD
    · unfold Fre at z
      rw [upd_ne hb] at z
      exact z

section
variable {X : Cx} {O : Owns} {Γ : Env} {e a b : Expr} {es : List Expr} {ts : List Ty} {T U W : Ty} {pos : Pos} {i j : Int}
/-! ### displays -/
/-- a tuple that the call made -/
def tTupH (ts : List Ty) : Ty := ⟨fun v S => ∃ a vs, v = .ref a ∧ S a = some (.tup vs) ∧ All2 ts vs S, fun e ⟨a, vs, h1, h2, h3⟩ => ⟨a, vs, h1, e _ _ h2, h3.m e⟩⟩
theorem tTupH_le {K : PySem.W.Frag} {ts : List Ty} : (tTupH ts).le (tTup K ts) := fun _ _ ⟨a, vs, h1, h2, h3⟩ => ⟨a, vs, h1, SqT.of h2, h3⟩
theorem tRefly_tup {K : PySem.W.Frag} {ts : List Ty} : tRefly (tTup K ts) := fun _ _ ⟨a, _, h, _⟩ => ⟨a, h⟩
theorem et_tupH {x1} (h : ATy X O Γ es ts) (hl : ts.length ≤ 100000 := by exact Nat.le_of_ble_eq_true rfl) : ETy X O Γ (.Tuple es x1 pos) (tTupH ts) := fun σ F S H Q g o i1 q =>
  of_pe (pe_tup pa_w) (h σ F S H _ g o i1 fun vs S1 H1 g1 t1 => ⟨by rw [← t1.len]; exact sz100 hl, fun p hp =>
    q (.ref p) (upd S1 p (.tup vs)) (upd H1 p (.tup vs)) (g1.trans (.new g1.i hp)) ⟨p, vs, rfl, upd_same, t1.m (same_upd (g1.i.free hp))⟩⟩)
theorem et_tup {x1} (h : ATy X O Γ es ts) (hl : ts.length ≤ 100000 := by exact Nat.le_of_ble_eq_true rfl) : ETy X O Γ (.Tuple es x1 pos) (tTup X.K ts) := et_le (et_tupH h hl) tTupH_le
theorem et_lst (h : ATy X O Γ es ts) (hl : ts.length ≤ 100000 := by exact Nat.le_of_ble_eq_true rfl) : ETy X O Γ (.List es pos) (tLst X.K ts) := fun σ F S H Q g o i1 q =>
  of_pe (pe_lst pa_w) (h σ F S H _ g o i1 fun vs S1 H1 g1 t1 => ⟨by rw [← t1.len]; exact sz100 hl, fun p hp =>
    q (.ref p) (upd S1 p (.lst vs)) (upd H1 p (.lst vs)) (g1.trans (.new g1.i hp)) ⟨p, vs, rfl, SqL.of upd_same, t1.m (same_upd (g1.i.free hp))⟩⟩)
theorem all2_ints : ∀ {ns : List Int} {vs : List V} {S : Hp}, All2 (ns.map tI) vs S → vs = ns.map V.int
  | [], _, _, h => by cases h; rfl
  | n :: ns, _, _, h => by
    cases h with
    | cons h1 h2 =>
      have e1 : _ = V.int n := h1
      rw [e1, all2_ints h2]
      rfl
theorem ints_all2 : ∀ (ns : List Int) (S : Hp), All2 (ns.map tI) (ns.map V.int) S
  | [], _ => .nil
  | n :: ns, S => .cons rfl (ints_all2 ns S)
theorem tRow_le {r : List Int} : (tRow r).le (tTupH (r.map tI)) := fun v S ⟨a, h1, h2⟩ => ⟨a, _, h1, h2, ints_all2 r S⟩
theorem le_tRow {r : List Int} : (tTupH (r.map tI)).le (tRow r) := fun v S ⟨a, vs, h1, h2, h3⟩ => ⟨a, h1, by rw [all2_ints h3] at h2; exact h2⟩
theorem tRow_tup {K : PySem.W.Frag} {r : List Int} : (tRow r).le (tTup K (r.map tI)) := fun v S h => tTupH_le _ _ (tRow_le _ _ h)
theorem tLst_seq {K : PySem.W.Frag} {ts : List Ty} : (tLst K ts).le (tSeq K ts) := fun _ _ h => .inl h
theorem tTup_seq {K : PySem.W.Frag} {ts : List Ty} : (tTup K ts).le (tSeq K ts) := fun _ _ h => .inr h
/-! ### subscripts -/
theorem r_ixL {K : PySem.W.Frag} {ts : List Ty} {k : Nat} (hT : ts[k]? = some T) : ∀ x y S H (Q : VK), (tLst K ts).p x S → (tI (k : Int)).p y S → Same S H → (∀ v S' H', Grow S H S' H' → T.p v S' → Q v H') → rIxL K x y H Q := fun x y S H Q h1 h2 e q => by
  obtain ⟨a, vs, h3, h4, h5⟩ := h1
  obtain ⟨v, h6, h7⟩ := h5.get hT
  exact ⟨a, vs, k, v, h3, h2, same_l e h4, atI_nat h6, q v S H (.refl e) h7⟩
theorem r_ixT {K : PySem.W.Frag} {ts : List Ty} {k : Nat} (hT : ts[k]? = some T) : ∀ x y S H (Q : VK), (tTup K ts).p x S → (tI (k : Int)).p y S → Same S H → (∀ v S' H', Grow S H S' H' → T.p v S' → Q v H') → rIxT K x y H Q := fun x y S H Q h1 h2 e q => by
  obtain ⟨a, vs, h3, h4, h5⟩ := h1
  obtain ⟨v, h6, h7⟩ := h5.get hT
  exact ⟨a, vs, k, v, h3, h2, same_t e h4, atI_nat h6, q v S H (.refl e) h7⟩
theorem et_ix {r : R2} (ho : IxR X r) (ha : ETy X O Γ a T) (hb : ETy X O Γ b U) (hs : PlainIx b)
    (hr : ∀ x y S H (Q : VK), T.p x S → U.p y S → Same S H → (∀ v S' H', Grow S H S' H' → W.p v S' → Q v H') → r x y H Q) : ETy X O Γ (.Subscript a b pos) W := fun σ F S H Q g o i q =>
  of_pe (pe_ix ho pe_w pe_w hs) (ha σ F S H _ g o i fun x S1 H1 g1 t1 => hb σ F S1 H1 _ (g.m g1.s) (o.grow g1) g1.i fun y S2 H2 g2 t2 =>
    hr x y S2 H2 Q (T.m g2.s t1) t2 g2.i fun v S' H' g3 w => q v S' H' ((g1.trans g2).trans g3) w)
theorem et_ixL {k : Nat} (ha : ETy X O Γ a (tLst X.K ts)) (hb : ETy X O Γ b (tI i)) (hi : i = (k : Int)) (hT : ts[k]? = some T) (hs : PlainIx b := by exact fun _ _ => rfl) : ETy X O Γ (.Subscript a b pos) T := by
  subst hi
  exact et_ix ix_list ha hb hs (r_ixL hT)
theorem et_ixT {k : Nat} (ha : ETy X O Γ a (tTup X.K ts)) (hb : ETy X O Γ b (tI i)) (hi : i = (k : Int)) (hT : ts[k]? = some T) (hs : PlainIx b := by exact fun _ _ => rfl) : ETy X O Γ (.Subscript a b pos) T := by
  subst hi
  exact et_ix ix_tup ha hb hs (r_ixT hT)
theorem et_ixS {k : Nat} (ha : ETy X O Γ a (tSeq X.K ts)) (hb : ETy X O Γ b (tI i)) (hi : i = (k : Int)) (hT : ts[k]? = some T) (hs : PlainIx b := by exact fun _ _ => rfl) : ETy X O Γ (.Subscript a b pos) T := by
  subst hi
  refine et_ix (ix_list.or ix_tup) ha hb hs fun x y S H Q h1 h2 e q => ?_
  rcases h1 with h1 | h1
  · exact .inl (r_ixL hT x y S H Q h1 h2 e q)
  · exact .inr (r_ixT hT x y S H Q h1 h2 e q)
/-! ### attributes -/
def Proj (K : PySem.W.Frag) (T : Ty) (f : Str) (U : Ty) : Prop := ∀ v S, T.p v S → ∃ a C dx fs u, v = .ref a ∧ S a = some (.ins C dx fs) ∧ Cls K C ∧ NoAttr K C f ∧ fs.lookup f = some u ∧ U.p u S
theorem et_fld {f : Str} (he : ETy X O Γ e T) (hp : Proj X.K T f U) (hb : attributeBase e f X.env (eval e X.env) = eval e X.env := by rfl) : ETy X O Γ (.Attribute e f pos) U := fun σ F S H Q g o i q =>
  of_pe (pe_fld pe_w hb) (he σ F S H _ g o i fun x S1 H1 g1 t1 => by
    obtain ⟨a, C, dx, fs, u, h1, h2, h3, h4, h5, h6⟩ := hp x S1 t1
    exact ⟨a, C, dx, fs, u, h1, g1.i _ _ h2, h3, h4, h5, q u S1 H1 g1 h6⟩)
/-! ### calls of built-ins -/
theorem et_callB {x : Str} {id : String} {p : Pos} {r : List V → Hp → VK → Prop} (hc : CallR X (.builtin id) r) (hm : X.mg x = none) (hv : bootBuiltins x = some (.builtin id)) (ha : ATy X O Γ (e :: es) ts)
    (hr : ∀ vs S H (Q : VK), All2 ts vs S → Same S H → (∀ v S' H', Grow S H S' H' → W.p v S' → Q v H') → r vs H Q) (hg : Gl X x := by rfl) (hn : x ≠ "__name__" := by decide) (hdb : (x == ("__debug__" : Str)) = false := by decide)
    (he : starEach (e :: es) X.env = (false, eval e X.env) :: starEach es X.env := by rfl) (hpl : (backTo pos (starEach es X.env)).any (·.1) = false := by rfl) : ETy X O Γ (.Call (.Name x p) (e :: es) [] pos) W := fun σ F S H Q g o i q =>
  of_pe (pe_callB hc hg hm hv pa_w hn hdb he hpl) (ha σ F S H _ g o i fun vs S1 H1 g1 t1 => hr vs S1 H1 Q t1 g1.i fun v S' H' g3 w => q v S' H' (g1.trans g3) w)
theorem et_callTy {x : Str} {id : String} {p : Pos} {r : List V → Hp → VK → Prop} (hc : CallR X (.type id) r) (hm : X.mg x = none) (hv : bootBuiltins x = some (.type id)) (ha : ATy X O Γ (e :: es) ts)
    (hr : ∀ vs S H (Q : VK), All2 ts vs S → Same S H → (∀ v S' H', Grow S H S' H' → W.p v S' → Q v H') → r vs H Q) (hg : Gl X x := by rfl) (hn : x ≠ "__name__" := by decide) (hdb : (x == ("__debug__" : Str)) = false := by decide)
    (he : starEach (e :: es) X.env = (false, eval e X.env) :: starEach es X.env := by rfl) (hpl : (backTo pos (starEach es X.env)).any (·.1) = false := by rfl) : ETy X O Γ (.Call (.Name x p) (e :: es) [] pos) W := fun σ F S H Q g o i q =>
  of_pe (pe_callTy hc hg hm hv pa_w hn hdb he hpl) (ha σ F S H _ g o i fun vs S1 H1 g1 t1 => hr vs S1 H1 Q t1 g1.i fun v S' H' g3 w => q v S' H' (g1.trans g3) w)
theorem at_one (h : ETy X O Γ e T) (hs : starEach (e :: []) X.env = (false, eval e X.env) :: starEach [] X.env := by rfl) : ATy X O Γ [e] [T] := at_cons h at_nil hs
theorem all2_1 {v : List V} {S : Hp} (h : All2 [T] v S) : ∃ x, v = [x] ∧ T.p x S := by
  cases h with
  | cons h1 h2 => cases h2; exact ⟨_, rfl, h1⟩
theorem all2_2 {v : List V} {S : Hp} (h : All2 [T, U] v S) : ∃ x y, v = [x, y] ∧ T.p x S ∧ U.p y S := by
  cases h with
  | cons h1 h2 =>
    obtain ⟨y, e, h3⟩ := all2_1 h2
    subst e
    exact ⟨_, _, rfl, h1, h3⟩
theorem all2_3 {v : List V} {S : Hp} (h : All2 [T, U, W] v S) : ∃ x y z, v = [x, y, z] ∧ T.p x S ∧ U.p y S ∧ W.p z S := by
  cases h with
  | cons h1 h2 =>
    obtain ⟨y, z, e, h3⟩ := all2_2 h2
    subst e
    exact ⟨_, _, _, rfl, h1, h3⟩
theorem r_len {K : PySem.W.Frag} {ts : List Ty} : ∀ vs S H (Q : VK), All2 [tSeq K ts] vs S → Same S H → (∀ v S' H', Grow S H S' H' → (tI ts.length).p v S' → Q v H') → (∃ p ys, vs = [.ref p] ∧ (SqL K H p ys ∨ SqT K H p ys) ∧ Q (.int ys.length) H) := fun vs S H Q h e q => by
  obtain ⟨x, rfl, h'⟩ := all2_1 h
  rcases h' with ⟨a, ys, h1, h2, h3⟩ | ⟨a, ys, h1, h2, h3⟩
  · subst h1
    exact ⟨a, ys, rfl, .inl (same_l e h2), q _ S H (.refl e) (by rw [h3.len]; rfl)⟩
  · subst h1
    exact ⟨a, ys, rfl, .inr (same_t e h2), q _ S H (.refl e) (by rw [h3.len]; rfl)⟩
variable {p : Pos}
theorem et_lenS (hm : X.mg "len" = none) (ha : ETy X O Γ e (tSeq X.K ts)) (hg : Gl X "len" := by rfl) (hs : starEach (e :: []) X.env = (false, eval e X.env) :: starEach [] X.env := by rfl) : ETy X O Γ (.Call (.Name "len" p) [e] [] pos) (tI ts.length) :=
  et_callB call_len_seq hm PySem.boot_len (at_one ha hs) r_len hg (he := hs)
theorem et_lenT (hm : X.mg "len" = none) (ha : ETy X O Γ e (tTup X.K ts)) (hg : Gl X "len" := by rfl) (hs : starEach (e :: []) X.env = (false, eval e X.env) :: starEach [] X.env := by rfl) : ETy X O Γ (.Call (.Name "len" p) [e] [] pos) (tI ts.length) := et_lenS hm (et_le ha tTup_seq) hg hs
theorem et_lenL (hm : X.mg "len" = none) (ha : ETy X O Γ e (tLst X.K ts)) (hg : Gl X "len" := by rfl) (hs : starEach (e :: []) X.env = (false, eval e X.env) :: starEach [] X.env := by rfl) : ETy X O Γ (.Call (.Name "len" p) [e] [] pos) (tI ts.length) := et_lenS hm (et_le ha tLst_seq) hg hs
theorem et_abs (hm : X.mg "abs" = none) (ha : ETy X O Γ e (tI i)) (hg : Gl X "abs" := by rfl) (hs : starEach (e :: []) X.env = (false, eval e X.env) :: starEach [] X.env := by rfl) : ETy X O Γ (.Call (.Name "abs" p) [e] [] pos) (tI (if i < 0 then -i else i)) :=
  et_callB call_abs hm (by decide +kernel) (at_one ha hs) (fun vs S H Q h e q => by
    obtain ⟨x, rfl, h'⟩ := all2_1 h
    have h1 : x = .int i := h'
    subst h1
    exact ⟨i, rfl, q _ S H (.refl e) rfl⟩) hg (he := hs)
theorem et_intI (hm : X.mg "int" = none) (ha : ETy X O Γ e (tI i)) (hg : Gl X "int" := by rfl) (hs : starEach (e :: []) X.env = (false, eval e X.env) :: starEach [] X.env := by rfl) : ETy X O Γ (.Call (.Name "int" p) [e] [] pos) (tI i) :=
  et_callTy call_int1 hm (by decide +kernel) (at_one ha hs) (fun vs S H Q h e q => by
    obtain ⟨x, rfl, h'⟩ := all2_1 h
    have h1 : x = .int i := h'
    subst h1
    exact .inl ⟨i, rfl, q _ S H (.refl e) rfl⟩) hg (he := hs)
def b2n (k : Bool) : Int := if k then 1 else 0
theorem et_intB {k : Bool} (hm : X.mg "int" = none) (ha : ETy X O Γ e (tBl k)) (hg : Gl X "int" := by rfl) (hs : starEach (e :: []) X.env = (false, eval e X.env) :: starEach [] X.env := by rfl) : ETy X O Γ (.Call (.Name "int" p) [e] [] pos) (tI (b2n k)) :=
  et_callTy call_int1 hm (by decide +kernel) (at_one ha hs) (fun vs S H Q h e q => by
    obtain ⟨x, rfl, h'⟩ := all2_1 h
    have h1 : x = .bl k := h'
    subst h1
    exact .inr ⟨k, rfl, q _ S H (.refl e) rfl⟩) hg (he := hs)
/-- tuple(a list): a new tuple -/
theorem et_tuple {ts : List Ty} (hm : X.mg "tuple" = none) (ha : ETy X O Γ e (tLst X.K ts)) (hg : Gl X "tuple" := by rfl) (hs : starEach (e :: []) X.env = (false, eval e X.env) :: starEach [] X.env := by rfl) : ETy X O Γ (.Call (.Name "tuple" p) [e] [] pos) (tTupH ts) :=
  et_callTy call_tuple_of hm (by decide +kernel) (at_one ha hs) (fun vs S H Q h e q => by
    obtain ⟨x, rfl, a, ys, h1, h2, h3⟩ := all2_1 h
    subst h1
    exact ⟨a, ys, rfl, .inl ⟨same_l e h2, fun l hl => q (.ref l) (upd S l (.tup ys)) _ (.new e hl) ⟨l, ys, rfl, upd_same, h3.m (same_upd (e.free hl))⟩⟩⟩) hg (he := hs)
theorem et_tuple' {ts : List Ty} (hm : X.mg "tuple" = none) (ha : ETy X O Γ e (tLst X.K ts)) (hg : Gl X "tuple" := by rfl) (hs : starEach (e :: []) X.env = (false, eval e X.env) :: starEach [] X.env := by rfl) : ETy X O Γ (.Call (.Name "tuple" p) [e] [] pos) (tTup X.K ts) := et_le (et_tuple hm ha hg hs) tTupH_le
/-- tuple of either -/
theorem et_tupleS {ts : List Ty} (hm : X.mg "tuple" = none) (ha : ETy X O Γ e (tSeq X.K ts)) (hg : Gl X "tuple" := by rfl) (hs : starEach (e :: []) X.env = (false, eval e X.env) :: starEach [] X.env := by rfl) : ETy X O Γ (.Call (.Name "tuple" p) [e] [] pos) (tTup X.K ts) :=
  et_callTy call_tuple_of hm (by decide +kernel) (at_one ha hs) (fun vs S H Q h e q => by
    obtain ⟨x, rfl, h'⟩ := all2_1 h
    rcases h' with ⟨a, ys, h1, h2, h3⟩ | ⟨a, ys, h1, h2, h3⟩
    · subst h1
      exact ⟨a, ys, rfl, .inl ⟨same_l e h2, fun l hl => q (.ref l) (upd S l (.tup ys)) _ (.new e hl) ⟨l, ys, rfl, SqT.of upd_same, h3.m (same_upd (e.free hl))⟩⟩⟩
    · subst h1
      exact ⟨a, ys, rfl, .inr ⟨same_t e h2, q _ S H (.refl e) ⟨a, ys, rfl, h2, h3⟩⟩⟩) hg (he := hs)
/-- list(..): a new list -/
theorem et_list {ts : List Ty} (hm : X.mg "list" = none) (ha : ETy X O Γ e (tSeq X.K ts)) (hg : Gl X "list" := by rfl) (hs : starEach (e :: []) X.env = (false, eval e X.env) :: starEach [] X.env := by rfl) : ETy X O Γ (.Call (.Name "list" p) [e] [] pos) (tLst X.K ts) :=
  et_callTy call_list_of hm (by decide +kernel) (at_one ha hs) (fun vs S H Q h e q => by
    obtain ⟨x, rfl, h'⟩ := all2_1 h
    rcases h' with ⟨a, ys, h1, h2, h3⟩ | ⟨a, ys, h1, h2, h3⟩
    · subst h1
      exact ⟨a, ys, rfl, .inl (same_l e h2), fun l hl => q (.ref l) (upd S l (.lst ys)) _ (.new e hl) ⟨l, ys, rfl, SqL.of upd_same, h3.m (same_upd (e.free hl))⟩⟩
    · subst h1
      exact ⟨a, ys, rfl, .inr (same_t e h2), fun l hl => q (.ref l) (upd S l (.lst ys)) _ (.new e hl) ⟨l, ys, rfl, SqL.of upd_same, h3.m (same_upd (e.free hl))⟩⟩) hg (he := hs)
theorem et_sum {ns : List Int} (hc : X.calm = true) (hm : X.mg "sum" = none) (ha : ETy X O Γ e (tLst X.K (ns.map tI))) (hg : Gl X "sum" := by rfl) (hs : starEach (e :: []) X.env = (false, eval e X.env) :: starEach [] X.env := by rfl) : ETy X O Γ (.Call (.Name "sum" p) [e] [] pos) (tI ns.sum) :=
  et_callB (cr_sum hc) hm (by decide +kernel) (at_one ha hs) (fun vs S H Q h e q => by
    obtain ⟨x, rfl, a, ys, h1, h2, h3⟩ := all2_1 h
    subst h1
    rw [all2_ints h3] at h2
    exact ⟨a, ns, rfl, same_l e h2, q _ S H (.refl e) rfl⟩) hg (he := hs)
theorem et_min {ns : List Int} (hc : X.calm = true) (hm : X.mg "min" = none) (ha : ETy X O Γ e (tLst X.K (ns.map tI))) (h0 : 0 < ns.length) (hW : ∀ m, m ∈ ns → (∀ y, y ∈ ns → m ≤ y) → (tI m).le W) (hg : Gl X "min" := by rfl) (hs : starEach (e :: []) X.env = (false, eval e X.env) :: starEach [] X.env := by rfl) : ETy X O Γ (.Call (.Name "min" p) [e] [] pos) W :=
  et_callB (cr_min hc) hm (by decide +kernel) (at_one ha hs) (fun vs S H Q h e q => by
    obtain ⟨x, rfl, a, ys, h1, h2, h3⟩ := all2_1 h
    subst h1
    rw [all2_ints h3] at h2
    exact ⟨a, ns, rfl, same_l e h2, h0, fun m hm1 hm2 => q _ S H (.refl e) (hW m hm1 hm2 _ _ rfl)⟩) hg (he := hs)
end
end K79
set_option Elab.async false
set_option linter.all false
set_option maxRecDepth 100000
/-! KD: the typed walk: comprehensions, statements, loops, calls of own defs, a def's promise. -/
namespace K79
open PySem L2

/-! ### readings by types -/
def RTy (t : TE) (O : Owns) (Γ : Env) (T : Ty) : Prop := ∀ (σ : L2.St) (F S H : Hp) (Q : VK), EnvOk Γ σ S → OwnOk O F S H → Same S H → (∀ v S' H', Grow S H S' H' → T.p v S' → Q v H') → t σ H Q
section
variable {X : Cx} {O : Owns} {Γ : Env} {e a b : Expr} {es : List Expr} {ts : List Ty} {T U W : Ty} {pos : Pos} {i j : Int}
theorem et_of {t : TE} (h : PE X e t) (r : RTy t O Γ T) : ETy X O Γ e T := fun σ F S H Q g o i q => of_pe h (r σ F S H Q g o i q)

/-! ### list comprehensions -/
/-- e in the block of a comprehension, whatever its frame -/
def wB (X : Cx) (sc : Scope) (e : Expr) : TE := fun σ H Q => ∀ (s : Shared) (H0 : Hp) (C : Addr) (cl : List (Str × Addr)) (fp : List Addr), wE (X.blk s H0 sc (compEnvC sc cl C X.env) fp) e σ H Q
def wBT (X : Cx) (sc : Scope) (e : Expr) : TT := fun σ H Q => ∀ (s : Shared) (H0 : Hp) (C : Addr) (cl : List (Str × Addr)) (fp : List Addr), wT (X.blk s H0 sc (compEnvC sc cl C X.env) fp) e σ H Q
/-- the block's own name forgotten -/
theorem env_wipe {Γ : Env} {σ : L2.St} {S : Hp} (h : EnvOk Γ σ S) (i : Nat) : EnvOk (Γ.set i none) (wipe σ [i]) S := h.unset i (v := none)
theorem wipe_set {σ : L2.St} (i : Nat) (v : Option V) : wipe ((wipe σ [i]).set i v) [i] = wipe σ [i] := by
  show ((σ.set i none).set i v).set i none = σ.set i none
  rw [List.set_set, List.set_set]
/-- the new list at D holds things of the types ts -/
def LcI (S1 H1 : Hp) (D : Addr) (ts : List Ty) (H' : Hp) : Prop := ∃ S' H'' vs, Grow S1 H1 S' H'' ∧ H'' D = none ∧ H' = upd H'' D (.lst vs) ∧ All2 ts vs S'
theorem LcI.start {S1 H1 : Hp} {D : Addr} (e : Same S1 H1) (h : H1 D = none) : LcI S1 H1 D [] (upd H1 D (.lst [])) := ⟨S1, H1, [], .refl e, h, rfl, .nil⟩
theorem LcI.keep {S1 H1 H' : Hp} {D : Addr} {ts : List Ty} (h : LcI S1 H1 D ts H') {b : Addr} {o : HO} (hb : S1 b = some o) : H' b = some o := by
  obtain ⟨S', H'', vs, g, hD, rfl, _⟩ := h
  have hn : b ≠ D := fun z => by
    have := g.i _ _ (g.s _ _ hb)
    rw [z, hD] at this
    cases this
  rw [upd_ne hn]
  exact g.i _ _ (g.s _ _ hb)
theorem LcI.same {S1 H1 H' : Hp} {D : Addr} {ts : List Ty} (h : LcI S1 H1 D ts H') : Same S1 H' := fun b o e => h.keep e
/-- one turn -/
theorem LcI.turn {S1 H1 H' : Hp} {D : Addr} {ts nx : List Ty} {O : Owns} {F : Hp} {σ : L2.St} {Γ : Env} {tt : TT} {te : TE} {kp : Bool} {T : Ty} (h : LcI S1 H1 D ts H') (hl : ts.length < 100000) (o : OwnOk O F S1 H1) (hσ : EnvOk Γ σ S1)
    (hy : kp = true → nx = ts ++ [T]) (hn : kp = false → nx = ts)
    (ht : ∀ (S H : Hp) (Q : Bool → Hp → Prop), EnvOk Γ σ S → OwnOk O F S H → Same S H → (∀ S' H', Grow S H S' H' → Q kp H') → tt σ H Q)
    (he : kp = true → ∀ (S H : Hp) (Q : VK), EnvOk Γ σ S → OwnOk O F S H → Same S H → (∀ v S' H', Grow S H S' H' → T.p v S' → Q v H') → te σ H Q) :
    tt σ H' fun b H3 => if b = true then te σ H3 fun y H4 => ∃ acc, H4 D = some (.lst acc) ∧ acc.length < sizeLine ∧ LcI S1 H1 D nx (upd H4 D (.lst (acc ++ [y]))) else LcI S1 H1 D nx H3 := by
  obtain ⟨S', H'', vs, g, hD, rfl, a2⟩ := h
  have sub : Same S' (upd H'' D (.lst vs)) := fun b u e => by
    have q := g.i b u e
    rw [upd_ne (ne_of_none q hD)]
    exact q
  have oo : OwnOk O F S' (upd H'' D (.lst vs)) := by
    refine (o.grow g).grow ⟨Same.refl _, sub, same_upd hD, fun b u e n => ?_⟩
    rw [e] at n
    cases n
  refine ht S' _ _ (hσ.m g.s) oo sub fun S3 H3 g3 => ?_
  cases kp with
  | false =>
    refine iteF ?_
    obtain ⟨H3', e3, n3, g3'⟩ := g3.hide (o := .lst vs) (fun _ z => by cases z) (fun b u e => g.i b u e) hD
    subst e3
    rw [hn rfl]
    exact ⟨S3, H3', vs, g.trans g3', n3, rfl, a2.m g3.s⟩
  | true =>
    refine iteT (he rfl S3 H3 _ ((hσ.m g.s).m g3.s) (oo.grow g3) g3.i fun y S4 H4 g4 t4 => ?_)
    obtain ⟨H4', e4, n4, g4'⟩ := (g3.trans g4).hide (o := .lst vs) (fun _ z => by cases z) (fun b u e => g.i b u e) hD
    subst e4
    rw [hy rfl]
    refine ⟨vs, upd_same, ?_, S4, H4', vs ++ [y], g.trans g4', n4, upd_upd, ((a2.m g3.s).m g4.s).append (.cons t4 .nil)⟩
    rw [← a2.len]
    exact Nat.lt_of_lt_of_le hl (by decide)
theorem LcI.done {S1 H1 H' : Hp} {D : Addr} {ts : List Ty} {K : PySem.W.Frag} {Q : VK} (h : LcI S1 H1 D ts H') (q : ∀ v S' H', Grow S1 H1 S' H' → (tLst K ts).p v S' → Q v H') : Q (.ref D) H' := by
  obtain ⟨S', H'', vs, g, hD, rfl, a2⟩ := h
  exact q (.ref D) (upd S' D (.lst vs)) _ (g.trans (.new g.i hD)) ⟨D, vs, rfl, SqL.of upd_same, a2.m (same_upd (g.i.free hD))⟩

/-- what stands behind n turns -/
def tkn {α : Type} (l : List α) (keep : α → Bool) (g : α → Ty) (n : Nat) : List Ty := ((l.take n).filter keep).map g
theorem tkn_yes {α : Type} {l : List α} {keep : α → Bool} {g : α → Ty} {n : Nat} {x : α} (h : l[n]? = some x) (hk : keep x = true) : tkn l keep g (n + 1) = tkn l keep g n ++ [g x] := by
  unfold tkn
  rw [List.take_add_one, h, List.filter_append, List.map_append]
  show _ ++ List.map g (List.filter keep [x]) = _
  rw [List.filter_cons, if_pos hk]
  rfl
theorem tkn_no {α : Type} {l : List α} {keep : α → Bool} {g : α → Ty} {n : Nat} {x : α} (h : l[n]? = some x) (hk : keep x = false) : tkn l keep g (n + 1) = tkn l keep g n := by
  unfold tkn
  rw [List.take_add_one, h, List.filter_append, List.map_append]
  show _ ++ List.map g (List.filter keep [x]) = _
  rw [List.filter_cons, if_neg (by rw [hk]; decide)]
  exact List.append_nil _
theorem tkn_len {α : Type} {l : List α} {keep : α → Bool} {g : α → Ty} (n : Nat) : (tkn l keep g n).length ≤ n := by
  unfold tkn
  rw [List.length_map]
  exact Nat.le_trans (List.length_filter_le keep _) (List.length_take_le n l)
theorem tkn_all {α : Type} {l : List α} {keep : α → Bool} {g : α → Ty} : tkn l keep g l.length = (l.filter keep).map g := by
  unfold tkn
  rw [List.take_length]
/-- a clause's tests: none, or one -/
def wIfs (X : Cx) (sc : Scope) : List Expr → TT
  | [] => tYes
  | [c] => wBT X sc c
  | _ => tDead
theorem pts_w {sc : Scope} {ifs : List Expr} (s : Shared) (H0 : Hp) (C : Addr) (cl : List (Str × Addr)) (fp : List Addr) : PTs (X.blk s H0 sc (compEnvC sc cl C X.env) fp) ifs (wIfs X sc ifs) := by
  match ifs with
  | [] => exact pts_nil
  | [c] => exact pts_one ⟨fun pins s' σ H Q I q => q s H0 C cl fp pins s' I⟩
  | _ :: _ :: _ => exact ⟨fun _ _ _ _ _ _ q => q.elim⟩
theorem pe_wB {sc : Scope} (s : Shared) (H0 : Hp) (C : Addr) (cl : List (Str × Addr)) (fp : List Addr) : PE (X.blk s H0 sc (compEnvC sc cl C X.env) fp) e (wB X sc e) := ⟨fun pins s' σ H Q I q => q s H0 C cl fp pins s' I⟩
/-- the tests answer k -/
def IfsTy (X : Cx) (sc : Scope) (O : Owns) (Γ : Env) (ifs : List Expr) (k : Bool) : Prop := ∀ (σ : L2.St) (F S H : Hp) (Q : Bool → Hp → Prop), EnvOk Γ σ S → OwnOk O F S H → Same S H → (∀ S' H', Grow S H S' H' → Q k H') → wIfs X sc ifs σ H Q
theorem ifs_nil {sc : Scope} : IfsTy X sc O Γ [] true := fun σ F S H Q g o i1 q => q S H (.refl i1)
theorem ifs_one {sc : Scope} {c : Expr} {k : Bool} (h : ∀ (s : Shared) (H0 : Hp) (C : Addr) (cl : List (Str × Addr)) (fp : List Addr), TTy (X.blk s H0 sc (compEnvC sc cl C X.env) fp) O Γ c k) : IfsTy X sc O Γ [c] k := fun σ F S H Q g o i1 q =>
  fun s H0 C cl fp => h s H0 C cl fp σ F S H Q g o i1 q
/-- an expression within a comprehension's block -/
def BlkE (X : Cx) (sc : Scope) (O : Owns) (Γ : Env) (e : Expr) (T : Ty) : Prop := ∀ (s : Shared) (H0 : Hp) (C : Addr) (cl : List (Str × Addr)) (fp : List Addr), ETy (X.blk s H0 sc (compEnvC sc cl C X.env) fp) O Γ e T
/-- one turn, in the form that lc_list and the like ask -/
theorem lc_turn {α : Type} {l : List α} {keep : α → Bool} {g T0 : α → Ty} {sc : Scope} {ifs : List Expr} {S1 H1 H' : Hp} {D : Addr} {F : Hp} {σ : L2.St} {n : Nat} {x : α} {v : V} {k : Nat} (h : LcI S1 H1 D (tkn l keep g n) H') (hx : l[n]? = some x) (hl : n < 100000) (o : OwnOk O F S1 H1) (hσ : EnvOk Γ σ S1) (hv : (T0 x).p v S1)
    (ht : IfsTy X sc O (Γ.set k (some (T0 x))) ifs (keep x)) (he : keep x = true → BlkE X sc O (Γ.set k (some (T0 x))) e (g x)) :
    gName k v (wipe σ [k]) H' fun σ2 H2 => wipe σ2 [k] = wipe σ [k] ∧ wIfs X sc ifs σ2 H2 fun b H3 => if b = true then wB X sc e σ2 H3 fun y H4 => ∃ acc, H4 D = some (.lst acc) ∧ acc.length < sizeLine ∧ LcI S1 H1 D (tkn l keep g (n + 1)) (upd H4 D (.lst (acc ++ [y]))) else LcI S1 H1 D (tkn l keep g (n + 1)) H3 := by
  have hw : EnvOk (Γ.set k (some (T0 x))) ((wipe σ [k]).set k (some v)) S1 := by
    have z := (env_wipe hσ k).set k hv
    rw [List.set_set] at z
    exact z
  refine ⟨wipe_set k (some v), ?_⟩
  exact LcI.turn h (Nat.lt_of_le_of_lt (tkn_len n) hl) o hw (tkn_yes hx) (tkn_no hx) (fun S H Q g o i q => ht _ F S H Q g o i q) fun hk S H Q g o i q s H0 C cl fp => he hk s H0 C cl fp _ F S H Q g o i q
section
variable {α : Type} {sc : Scope} {x : Str} {px : Pos} {ifs : List Expr} {k : Nat} {p : Pos}
/-- over a list -/
theorem rt_lcL (l : List α) (T0 g : α → Ty) (keep : α → Bool) (hi : ETy X O Γ a (tLst X.K (l.map T0))) (hl : l.length ≤ 99999) (ht : ∀ y ∈ l, IfsTy X sc O (Γ.set k (some (T0 y))) ifs (keep y)) (he : ∀ y ∈ l, keep y = true → BlkE X sc O (Γ.set k (some (T0 y))) e (g y)) :
    RTy (tLc (iList X.K (wE X a)) (gName k) (wIfs X sc ifs) (wB X sc e) [k]) O Γ (tLst X.K ((l.filter keep).map g)) := fun σ F S H Q gσ o i1 q => by
  refine hi σ F S H _ gσ o i1 fun v S1 H1 g1 ⟨a', vs, h1, h2, h3⟩ => ⟨a', h1, ⟨vs, same_l g1.i h2⟩, fun D hD => ?_⟩
  have hlen : vs.length = l.length := by rw [← h3.len, List.length_map]
  refine lc_list (K := X.K) (a := a') (xs := vs) (fun n H' => LcI S1 H1 D (tkn l keep g n) H') (LcI.start g1.i hD) (fun n H' _ h => same_l h.same h2) (fun n y H' hy h => ?_) (fun H' h => ?_)
  · obtain ⟨T, e1, hT⟩ := h3.getV hy
    rw [List.getElem?_map] at e1
    cases e2 : l[n]? with
    | none => rw [e2] at e1; cases e1
    | some w =>
      rw [e2] at e1
      cases e1
      have hm : w ∈ l := List.mem_of_getElem? e2
      have hn : n < l.length := (List.getElem?_eq_some_iff.mp e2).1
      exact lc_turn (F := F) h e2 (by omega) (o.grow g1) (gσ.m g1.s) hT (ht w hm) (he w hm)
  · rw [hlen, tkn_all] at h
    exact h.done fun v S' H' g2 t2 => q v S' H' (g1.trans g2) t2
/-- over a tuple -/
theorem rt_lcT (l : List α) (T0 g : α → Ty) (keep : α → Bool) (hi : ETy X O Γ a (tTup X.K (l.map T0))) (hl : l.length ≤ 99999) (ht : ∀ y ∈ l, IfsTy X sc O (Γ.set k (some (T0 y))) ifs (keep y)) (he : ∀ y ∈ l, keep y = true → BlkE X sc O (Γ.set k (some (T0 y))) e (g y)) :
    RTy (tLc (iTup X.K (wE X a)) (gName k) (wIfs X sc ifs) (wB X sc e) [k]) O Γ (tLst X.K ((l.filter keep).map g)) := fun σ F S H Q gσ o i1 q => by
  refine hi σ F S H _ gσ o i1 fun v S1 H1 g1 ⟨a', vs, h1, h2, h3⟩ => ⟨a', h1, ⟨vs, same_t g1.i h2⟩, fun D hD => ?_⟩
  have hlen : vs.length = l.length := by rw [← h3.len, List.length_map]
  refine lc_tup (K := X.K) (a := a') (xs := vs) (fun n H' => LcI S1 H1 D (tkn l keep g n) H') (LcI.start g1.i hD) (fun n H' _ h => same_t h.same h2) (fun n y H' hy h => ?_) (fun H' h => ?_)
  · obtain ⟨T, e1, hT⟩ := h3.getV hy
    rw [List.getElem?_map] at e1
    cases e2 : l[n]? with
    | none => rw [e2] at e1; cases e1
    | some w =>
      rw [e2] at e1
      cases e1
      have hm : w ∈ l := List.mem_of_getElem? e2
      have hn : n < l.length := (List.getElem?_eq_some_iff.mp e2).1
      exact lc_turn (F := F) h e2 (by omega) (o.grow g1) (gσ.m g1.s) hT (ht w hm) (he w hm)
  · rw [hlen, tkn_all] at h
    exact h.done fun v S' H' g2 t2 => q v S' H' (g1.trans g2) t2
theorem tkn_range {n : Nat} {keep : Nat → Bool} {g : Nat → Ty} : tkn (List.range n) keep g n = ((List.range n).filter keep).map g := by
  unfold tkn
  rw [List.take_of_length_le (by simp)]
theorem range_at {n j : Nat} (h : j < n) : (List.range n)[j]? = some j := by rw [List.getElem?_range h]
/-- over range(n) -/
theorem rt_lcR1 (n : Nat) (g : Nat → Ty) (keep : Nat → Bool) (hi : ATy X O Γ [a] [tI n]) (hl : n ≤ 99999) (ht : ∀ j, j < n → IfsTy X sc O (Γ.set k (some (tI (j : Nat)))) ifs (keep j)) (he : ∀ j, j < n → keep j = true → BlkE X sc O (Γ.set k (some (tI (j : Nat)))) e (g j)) :
    RTy (tLc (iRng1 (wA X [a])) (gName k) (wIfs X sc ifs) (wB X sc e) [k]) O Γ (tLst X.K (((List.range n).filter keep).map g)) := fun σ F S H Q gσ o i1 q => by
  refine hi σ F S H _ gσ o i1 fun vs S1 H1 g1 hvs => ?_
  obtain ⟨v, rfl, hv⟩ := all2_1 hvs
  have hv : v = .int n := hv
  subst hv
  refine ⟨n, rfl, by omega, by omega, fun D hD => ?_⟩
  refine lc_range (lo := 0) (n := (n : Int).toNat) (fun m H' => LcI S1 H1 D (tkn (List.range n) keep g m) H') (LcI.start g1.i hD) (fun m H' hm h => ?_) (fun H' h => ?_)
  · have hm : m < n := by simpa using hm
    rw [Int.zero_add]
    exact lc_turn (T0 := fun j : Nat => tI (j : Int)) (F := F) h (range_at hm) (by omega) (o.grow g1) (gσ.m g1.s) rfl (ht m hm) (he m hm)
  · have e : (n : Int).toNat = n := by simp
    rw [e, tkn_range] at h
    exact h.done fun v S' H' g2 t2 => q v S' H' (g1.trans g2) t2
/-- over range(lo, lo + n) -/
theorem rt_lcR2 (lo : Nat) (hi' : Int) (n : Nat) (g : Nat → Ty) (keep : Nat → Bool) (hi : ATy X O Γ [a, b] [tI lo, tI hi']) (hn : (hi' - lo).toNat = n) (hl : lo ≤ 99999 ∧ -99999 ≤ hi' ∧ hi' ≤ 99999) (ht : ∀ j, j < n → IfsTy X sc O (Γ.set k (some (tI ((lo + j : Nat) : Int)))) ifs (keep j)) (he : ∀ j, j < n → keep j = true → BlkE X sc O (Γ.set k (some (tI ((lo + j : Nat) : Int)))) e (g j)) :
    RTy (tLc (iRng2 (wA X [a, b])) (gName k) (wIfs X sc ifs) (wB X sc e) [k]) O Γ (tLst X.K (((List.range n).filter keep).map g)) := fun σ F S H Q gσ o i1 q => by
  refine hi σ F S H _ gσ o i1 fun vs S1 H1 g1 hvs => ?_
  obtain ⟨v, w, rfl, hv, hw⟩ := all2_2 hvs
  have hv : v = .int lo := hv
  have hw : w = .int hi' := hw
  subst hv hw
  refine ⟨lo, hi', rfl, ⟨by omega, by omega, by omega, by omega⟩, fun D hD => ?_⟩
  rw [hn]
  refine lc_range (lo := lo) (n := n) (fun m H' => LcI S1 H1 D (tkn (List.range n) keep g m) H') (LcI.start g1.i hD) (fun m H' hm h => ?_) (fun H' h => ?_)
  · have e0 : ((lo : Int) + (m : Int)) = ((lo + m : Nat) : Int) := by omega
    rw [e0]
    exact lc_turn (T0 := fun j : Nat => tI ((lo + j : Nat) : Int)) (F := F) h (range_at hm) (by omega) (o.grow g1) (gσ.m g1.s) rfl (ht m hm) (he m hm)
  · rw [tkn_range] at h
    exact h.done fun v S' H' g2 t2 => q v S' H' (g1.trans g2) t2
/-! what a comprehension's block asks of the text: bundled -/
theorem lookup_cell {env : PySem.Env} : ∀ {names : List (Str × NameKind)} {x : Str}, names.lookup x = some .cell →
    (names.map fun (n, k) => if (k == NameKind.free && env.scope.kind == .function && env.kindOf n == some .cell) then (n, NameKind.cell) else (n, k)).lookup x = some .cell
  | [], _, h => by cases h
  | (n, k) :: r, x, h => by
    have ih := @lookup_cell env r x
    show List.lookup x ((if (k == NameKind.free && env.scope.kind == .function && env.kindOf n == some .cell) = true then (n, NameKind.cell) else (n, k)) :: _) = _
    cases hx : x == n with
    | true =>
      simp only [List.lookup_cons, hx] at h
      cases h
      simp [List.lookup_cons, hx]
    | false =>
      simp only [List.lookup_cons, hx] at h
      split <;> (simp only [List.lookup_cons, hx]; exact ih h)
theorem own_kind {o : Option NameKind} (h : (o == some .local || o == some .cell) = true) : o = some .local ∨ o = some .cell := by
  cases o with
  | none => cases h
  | some k =>
    cases k with
    | «local» => exact .inl rfl
    | cell => exact .inr rfl
    | _ => cases h
structure LcOk (X : Cx) (sc : Scope) (x : Str) (k : Nat) : Prop where
  nd : X.N.Nodup
  ok : BlkOk X.N X.env.scope sc [(x, k)]
  ix : X.N[k]? = some x
  lc : (sc.names.lookup x == some .local || sc.names.lookup x == some .cell) = true
theorem LcOk.pg (h : LcOk X sc x k) (s : Shared) (H0 : Hp) (C : Addr) (cl : List (Str × Addr)) (fp : List Addr) : PG (X.blk s H0 sc (compEnvC sc cl C X.env) fp) (.Name x px) (gName k) := by
  rcases own_kind h.lc with e | e
  · exact pg_name h.nd h.ix (Or.inl (lookup_relabel_local e)) (Or.inr (lookup_relabel_local e))
  · exact pg_name h.nd h.ix (Or.inr (lookup_cell e)) (Or.inl (by show (sc.names.lookup x == some .cell) = true; rw [e]; rfl))
theorem rt_eq {t : TE} {T U : Ty} (h : RTy t O Γ T) (e : T = U) : RTy t O Γ U := e ▸ h
variable (hO : LcOk X sc x k)
include hO
theorem et_lcL (l : List α) (T0 g : α → Ty) (keep : α → Bool) (hi : ETy X O Γ a (tLst X.K (l.map T0))) (hl : l.length ≤ 99999) (ht : ∀ y ∈ l, IfsTy X sc O (Γ.set k (some (T0 y))) ifs (keep y)) (he : ∀ y ∈ l, keep y = true → BlkE X sc O (Γ.set k (some (T0 y))) e (g y)) (hc : X.calm = true := by rfl) (hs : ∀ x, foldedSetIterable a X.env x = pure x := by intro _; rfl) :
    ETy X O Γ (.ListComp e [⟨.Name x px, a, ifs, 0⟩] sc pos) (tLst X.K ((l.filter keep).map g)) := et_of (pe_lc hc hO.nd (pi_list pe_w) hO.ok hO.pg pts_w pe_wB hs) (rt_lcL l T0 g keep hi hl ht he)
theorem et_lcT (l : List α) (T0 g : α → Ty) (keep : α → Bool) (hi : ETy X O Γ a (tTup X.K (l.map T0))) (hl : l.length ≤ 99999) (ht : ∀ y ∈ l, IfsTy X sc O (Γ.set k (some (T0 y))) ifs (keep y)) (he : ∀ y ∈ l, keep y = true → BlkE X sc O (Γ.set k (some (T0 y))) e (g y)) (hc : X.calm = true := by rfl) (hs : ∀ x, foldedSetIterable a X.env x = pure x := by intro _; rfl) :
    ETy X O Γ (.ListComp e [⟨.Name x px, a, ifs, 0⟩] sc pos) (tLst X.K ((l.filter keep).map g)) := et_of (pe_lc hc hO.nd (pi_tup pe_w) hO.ok hO.pg pts_w pe_wB hs) (rt_lcT l T0 g keep hi hl ht he)
theorem et_lcR1 {pr pc : Pos} (n : Nat) (g : Nat → Ty) (keep : Nat → Bool) (hm : X.mg "range" = none) (hi : ETy X O Γ a (tI n)) (hl : n ≤ 99999) (ht : ∀ j, j < n → IfsTy X sc O (Γ.set k (some (tI (j : Nat)))) ifs (keep j)) (he : ∀ j, j < n → keep j = true → BlkE X sc O (Γ.set k (some (tI (j : Nat)))) e (g j)) (hg : Gl X "range" := by rfl) (hc : X.calm = true := by rfl)
    (hs1 : starEach [a] X.env = [(false, eval a X.env)] := by rfl) (hs : ∀ x, foldedSetIterable (.Call (.Name "range" pr) [a] [] pc) X.env x = pure x := by intro _; rfl) :
    ETy X O Γ (.ListComp e [⟨.Name x px, .Call (.Name "range" pr) [a] [] pc, ifs, 0⟩] sc pos) (tLst X.K (((List.range n).filter keep).map g)) := et_of (pe_lc hc hO.nd (pi_range1 hg hm pa_w hs1) hO.ok hO.pg pts_w pe_wB hs) (rt_lcR1 n g keep (at_one hi hs1) hl ht he)
theorem et_lcR2 {pr pc : Pos} (lo : Nat) (hi' : Int) (n : Nat) (g : Nat → Ty) (keep : Nat → Bool) (hm : X.mg "range" = none) (ha : ETy X O Γ a (tI lo)) (hb : ETy X O Γ b (tI hi')) (hn : (hi' - lo).toNat = n) (hl : lo ≤ 99999 ∧ -99999 ≤ hi' ∧ hi' ≤ 99999) (ht : ∀ j, j < n → IfsTy X sc O (Γ.set k (some (tI ((lo + j : Nat) : Int)))) ifs (keep j)) (he : ∀ j, j < n → keep j = true → BlkE X sc O (Γ.set k (some (tI ((lo + j : Nat) : Int)))) e (g j)) (hg : Gl X "range" := by rfl) (hc : X.calm = true := by rfl)
    (hs1 : starEach [a, b] X.env = [(false, eval a X.env), (false, eval b X.env)] := by rfl) (hs2 : starEach [b] X.env = [(false, eval b X.env)] := by rfl) (hs : ∀ x, foldedSetIterable (.Call (.Name "range" pr) [a, b] [] pc) X.env x = pure x := by intro _; rfl) :
    ETy X O Γ (.ListComp e [⟨.Name x px, .Call (.Name "range" pr) [a, b] [] pc, ifs, 0⟩] sc pos) (tLst X.K (((List.range n).filter keep).map g)) := et_of (pe_lc hc hO.nd (pi_range2 hg hm pa_w hs1 hs2) hO.ok hO.pg pts_w pe_wB hs) (rt_lcR2 lo hi' n g keep (at_cons ha (at_one hb hs2) (by rw [hs1, hs2])) hn hl ht he)
end
end
end K79
set_option Elab.async false
set_option linter.all false
set_option maxRecDepth 100000
/-! KF: the typed walk: statements, loops, a def's promise, calls of own defs. -/
namespace K79
open PySem L2
open PyProof.Rows (envOfC)

theorem Grow.rebase {S0 H0 S1 H1 S H : Hp} (a : Grow S0 H0 S1 H1) (b : Grow S1 H0 S H) : Grow S0 H0 S H := by
  refine ⟨a.s.trans b.s, b.i, b.h, fun c o e n => ?_⟩
  cases q : S1 c with
  | some o1 => exact a.f c o1 q n
  | none => exact b.f c o e q
theorem Grow.forth {S0 H0 S1 H1 S H : Hp} (a : Grow S0 H0 S1 H1) (b : Grow S1 H1 S H) : Grow S1 H0 S H := by
  refine ⟨b.s, b.i, a.h.trans b.h, fun c o e n => (b.f c o e n).back a.h⟩
theorem RetOk.rebase {S0 H0 S1 H1 : Hp} {R : Ty} {rt : VK} (h : RetOk S0 H0 R rt) (g : Grow S0 H0 S1 H1) : RetOk S1 H0 R rt := fun v S H g2 r => h v S H (g.rebase g2) r
theorem BTy.rebase {X : Cx} {S0 H0 S1 H1 : Hp} {O : Owns} {Γ : Env} {sts : List Stmt} {D : Ends} (h : BTy X S0 H0 O Γ sts D) (g : Grow S0 H0 S1 H1) : BTy X S1 H0 O Γ sts D := fun σ S H g2 e o => h σ S H (g.rebase g2) e o
/-- what a loop's turn is to reach -/
def Nx (S1 H0 : Hp) (O : Owns) (Γ : Env) : L2.St → Hp → Prop := fun σ H => ∃ S, Grow S1 H0 S H ∧ EnvOk Γ σ S ∧ OwnOk O H0 S H
section
variable {X : Cx} {S0 H0 : Hp} {O O' : Owns} {Γ Δ : Env} {D : Ends} {e a b c : Expr} {es : List Expr} {rest body orelse : List Stmt} {T U R : Ty} {ts : List Ty} {pos pos' : Pos} {x : Str} {i : Nat} {k : Bool}

theorem bt_nil (h : ∀ σ S H, Grow S0 H0 S H → EnvOk Γ σ S → OwnOk O H0 S H → D.nx σ H) : BTy X S0 H0 O Γ [] D := fun σ S H g e o => of_pss pss_nil (h σ S H g e o)
/-- a turn's end -/
theorem bt_turn {n : L2.St → Hp → Prop} {r : VK} {b c : L2.St → Hp → Prop} (hn : ∀ σ H, Nx S0 H0 O Δ σ H → n σ H) (l : EnvLe Γ Δ) : BTy X S0 H0 O Γ [] ⟨n, r, b, c⟩ := bt_nil fun σ S H g e o => hn σ H ⟨S, g, e.le l, o⟩
/-- behind an if's branch -/
theorem bt_on {D' : Ends} (h : BTy X S0 H0 O Γ rest D') {r : VK} {b c : L2.St → Hp → Prop} : BTy X S0 H0 O Γ [] ⟨fun σ H => wSs X rest D' σ H, r, b, c⟩ := bt_nil fun σ S H g e o => h σ S H g e o
theorem bt_le (l : EnvLe Γ Δ) (h : BTy X S0 H0 O Δ rest D) : BTy X S0 H0 O Γ rest D := fun σ S H g e o => h σ S H g (e.le l) o
theorem bt_set (i : Nat) (nd : X.N.Nodup) (he : ETy X O Γ e T) (hr : BTy X S0 H0 O (Γ.set i (some T)) rest D) (hi : X.N[i]? = some x := by rfl) (hx : Loc X.env.scope x := by first | exact Or.inl rfl | exact Or.inr rfl)
    (hs : swapsWith e (some (.Name x pos')) pos.line X.env = pure false := by rfl) (hf : X.fn x = true ∨ X.env.scope.names.lookup x = some .local := by first | exact .inl rfl | exact .inr rfl | assumption) : BTy X S0 H0 O Γ (.Assign [.Name x pos'] e pos :: rest) D := fun σ S H g g1 o =>
  of_pss (pss_cons (ps_set nd hi hx pe_w hs hf) pss_w) (he σ H0 S H _ g1 o g.i fun v S1 H1 g2 t => hr _ S1 H1 (g.trans g2) ((g1.m g2.s).set i t) (o.grow g2))
theorem bt_setR (i : Nat) {t : TE} (hp : PS X (.Assign [.Name x pos'] e pos) (tAsg t (gName i))) (he : RTy t O Γ T) (hr : BTy X S0 H0 O (Γ.set i (some T)) rest D) : BTy X S0 H0 O Γ (.Assign [.Name x pos'] e pos :: rest) D := fun σ S H g g1 o =>
  of_pss (pss_cons hp pss_w) (he σ H0 S H _ g1 o g.i fun v S1 H1 g2 t => hr _ S1 H1 (g.trans g2) ((g1.m g2.s).set i t) (o.grow g2))
theorem bt_ret (he : ETy X O Γ e R) (hR : RetOk S0 H0 R D.rt) : BTy X S0 H0 O Γ (.Return (some e) pos :: rest) D := fun σ S H g g1 o =>
  of_pss (pss_cons (ps_ret pe_w) (pss_w (sts := rest))) (he σ H0 S H _ g1 o g.i fun v S1 H1 g2 t => hR v S1 H1 (g.trans g2) t)
theorem bt_if (hc : TTy X O Γ c k) (h1 : k = true → BTy X S0 H0 O Γ body { D with nx := fun σ H => wSs X rest D σ H }) (h2 : k = false → BTy X S0 H0 O Γ orelse { D with nx := fun σ H => wSs X rest D σ H }) : BTy X S0 H0 O Γ (.If c body orelse pos :: rest) D := fun σ S H g g1 o =>
  of_pss (pss_cons (ps_if pt_w pss_w pss_w) pss_w) (hc σ H0 S H _ g1 o g.i fun S1 H1 g2 => by
    cases k with
    | true => exact iteT (h1 rfl σ S1 H1 (g.trans g2) (g1.m g2.s) (o.grow g2))
    | false => exact iteF (h2 rfl σ S1 H1 (g.trans g2) (g1.m g2.s) (o.grow g2)))
/-- an if that is never gone into -/
theorem bt_no (hc : TTy X O Γ c k) (hk : k = false) (h : BTy X S0 H0 O Γ rest D) : BTy X S0 H0 O Γ (.If c body [] pos :: rest) D := bt_if hc (fun h1 => by rw [hk] at h1; cases h1) fun _ => bt_on h
/-- an if that leaves -/
theorem bt_lv (hc : TTy X O Γ c k) (h1 : k = true → BTy X S0 H0 O Γ body { D with nx := fun σ H => wSs X rest D σ H }) (h : k = false → BTy X S0 H0 O Γ rest D) : BTy X S0 H0 O Γ (.If c body [] pos :: rest) D := bt_if hc h1 fun h2 => bt_on (h h2)
/-- what is known of a slot's value for some x -/
theorem bt_ex {α : Type} {f : α → Ty} (i : Nat) (hg : Γ[i]? = some (some (tEx f))) (h : ∀ x, BTy X S0 H0 O (Γ.set i (some (f x))) rest D) : BTy X S0 H0 O Γ rest D := fun σ S H g g1 o => by
  obtain ⟨v, e1, x, e2⟩ := g1.at_ i _ hg
  refine h x σ S H g ⟨by simpa using g1.len, fun j U q => ?_⟩ o
  by_cases hj : i = j
  · subst hj
    rw [List.getElem?_set_self (List.getElem?_eq_some_iff.mp hg).1] at q
    cases q
    exact ⟨v, e1, e2⟩
  · rw [List.getElem?_set_ne hj] at q
    exact g1.at_ j U q
theorem bt_when {P : Prop} (i : Nat) (hg : Γ[i]? = some (some (tWhen T P))) (h : P → BTy X S0 H0 O (Γ.set i (some T)) rest D) : BTy X S0 H0 O Γ rest D := fun σ S H g g1 o => by
  obtain ⟨v, e1, e2, hP⟩ := g1.at_ i _ hg
  refine h hP σ S H g ⟨by simpa using g1.len, fun j U q => ?_⟩ o
  by_cases hj : i = j
  · subst hj
    rw [List.getElem?_set_self (List.getElem?_eq_some_iff.mp hg).1] at q
    cases q
    exact ⟨v, e1, e2⟩
  · rw [List.getElem?_set_ne hj] at q
    exact g1.at_ j U q
/-- name += e, name -= e -/
theorem bt_aug {op : Operator} {g : Int → Int → Int} (i : Nat) {m n : Int} (nd : X.N.Nodup) (ip : PIp X op (ipI g)) (hg : Γ[i]? = some (some (tI m))) (he : ETy X O Γ e (tI n)) (hr : BTy X S0 H0 O (Γ.set i (some (tI (g m n)))) rest D) (hi : X.N[i]? = some x := by rfl) (hx : Loc X.env.scope x := by first | exact Or.inl rfl | exact Or.inr rfl)
    (hf : X.fn x = true ∨ X.env.scope.names.lookup x = some .local := by first | exact .inl rfl | exact .inr rfl | assumption) : BTy X S0 H0 O Γ (.AugAssign (.Name x pos') op e pos :: rest) D := fun σ S H g0 g1 o => by
  obtain ⟨v, e1, e2⟩ := g1.at_ i _ hg
  have e2 : v = .int m := e2
  subst e2
  exact of_pss (pss_cons (ps_aug nd hi hx pe_w ip hf) pss_w) ⟨_, e1, he σ H0 S H _ g1 o g0.i fun v S1 H1 g2 t => by
    have t : v = .int n := t
    subst t
    exact ⟨m, n, rfl, rfl, hr _ S1 H1 (g0.trans g2) ((g1.m g2.s).set i rfl) (o.grow g2)⟩⟩
/-- a, b = e, a tuple of two -/
theorem bt_un2 {y : Str} {p1 p2 pt : Pos} {kt : Nat} (i j : Nat) (nd : X.N.Nodup) (he : ETy X O Γ e (tTup X.K [T, U])) (hr : BTy X S0 H0 O ((Γ.set i (some T)).set j (some U)) rest D) (hi : X.N[i]? = some x := by rfl) (hx : Loc X.env.scope x := by first | exact Or.inl rfl | exact Or.inr rfl)
    (hf : X.fn x = true ∨ X.env.scope.names.lookup x = some .local := by first | exact .inl rfl | exact .inr rfl | assumption) (hj : X.N[j]? = some y := by rfl) (hy : Loc X.env.scope y := by first | exact Or.inl rfl | exact Or.inr rfl) (hfy : X.fn y = true ∨ X.env.scope.names.lookup y = some .local := by first | exact .inl rfl | exact .inr rfl | assumption)
    (hc : X.calm = true := by rfl) (hs : swapsWithSole [.Tuple [.Name x p1, .Name y p2] kt pt] e pos.line X.env = pure false := by rfl) (hw : swappedStores [.Tuple [.Name x p1, .Name y p2] kt pt] e X.env = pure none := by rfl)
    (h1 : (assignEach [.Tuple [.Name x p1, .Name y p2] kt pt] X.env).map (·.2) = [assign (.Tuple [.Name x p1, .Name y p2] kt pt) X.env] := by rfl)
    (hs1 : (assignEach [.Name x p1, .Name y p2] X.env).map (·.2) = assign (.Name x p1) X.env :: (assignEach [.Name y p2] X.env).map (·.2) := by rfl) (hs2 : (assignEach [.Name y p2] X.env).map (·.2) = assign (.Name y p2) X.env :: (assignEach [] X.env).map (·.2) := by rfl)
    (hn : (assignEach [.Name x p1, .Name y p2] X.env).length = 2 := by rfl) (hst : (assignEach [.Name x p1, .Name y p2] X.env).findIdx? (·.1) = none := by rfl) :
    BTy X S0 H0 O Γ (.Assign [.Tuple [.Name x p1, .Name y p2] kt pt] e pos :: rest) D := fun σ S H g0 g1 o =>
  of_pss (pss_cons (ps_asg pe_w (pg_tup hc (pgs_cons (pg_name nd hi hx hf) (pgs_cons (pg_name nd hj hy hfy) pgs_nil hs2) hs1) hn hst) hs hw h1) pss_w) (he σ H0 S H _ g1 o g0.i fun v S1 H1 g2 ⟨a, vs, h1, h2, h3⟩ => by
    obtain ⟨u, w, rfl, hu, hw⟩ := all2_2 h3
    exact ⟨a, _, h1, same_t g2.i h2, rfl, u, _, rfl, w, _, rfl, rfl, hr _ S1 H1 (g0.trans g2) (((g1.m g2.s).set i hu).set j hw) (o.grow g2)⟩)
/-- a, b = e1, e2 -/
theorem bt_par {y : Str} {p1 p2 pt : Pos} {kt k2 : Nat} {pt2 : Pos} (i j : Nat) (nd : X.N.Nodup) (hij : i ≠ j) (ha : ATy X O Γ [a, b] [T, U]) (hr : BTy X S0 H0 O ((Γ.set i (some T)).set j (some U)) rest D) (hi : X.N[i]? = some x := by rfl) (hj : X.N[j]? = some y := by rfl)
    (hx : X.env.scope.names.lookup x = some .local := by rfl) (hy : X.env.scope.names.lookup y = some .local := by rfl) (hc : X.calm = true := by rfl)
    (hw : swappedStores [.Tuple [.Name x p1, .Name y p2] kt pt] (.Tuple [a, b] k2 pt2) X.env = pure (some [x, y]) := by rfl) (hs : swapsWithSole [.Tuple [.Name x p1, .Name y p2] kt pt] (.Tuple [a, b] k2 pt2) pos.line X.env = pure false := by rfl) :
    BTy X S0 H0 O Γ (.Assign [.Tuple [.Name x p1, .Name y p2] kt pt] (.Tuple [a, b] k2 pt2) pos :: rest) D := fun σ S H g0 g1 o =>
  of_pss (pss_cons (ps_par hc nd hi hj hij hx hy pa_w hw hs) pss_w) (ha σ H0 S H _ g1 o g0.i fun vs S1 H1 g2 h3 => by
    obtain ⟨u, w, rfl, hu, hw⟩ := all2_2 h3
    exact ⟨u, w, rfl, hr _ S1 H1 (g0.trans g2) (((g1.m g2.s).set i hu).set j hw) (o.grow g2)⟩)

/-! ### loops -/
/-- the turns as for_list and the like ask, over a base (S1, H1) that holds what is walked -/
theorem turn_ok {G : Nat → Env} {OO : Nat → Owns} {S1 H1 : Hp} {n : Nat} {v : V} {T : Ty} {σ : L2.St} {H : Hp} (g0 : Grow S0 H0 S1 H1) (hv : T.p v S1) (hb : BTy X S1 H0 (OO n) ((G n).set i (some T)) body { D with nx := Nx S1 H0 (OO (n + 1)) (G (n + 1)), ct := Nx S1 H0 (OO (n + 1)) (G (n + 1)), bk := D.nx })
    (h : Nx S1 H0 (OO n) (G n) σ H) : gName i v σ H fun σ2 H2 => wSs X body { D with nx := Nx S1 H0 (OO (n + 1)) (G (n + 1)), ct := Nx S1 H0 (OO (n + 1)) (G (n + 1)), bk := D.nx } σ2 H2 := by
  obtain ⟨S, g, e, o⟩ := h
  exact hb _ S H g (e.set i (T.m g.s hv)) o
theorem bt_forL (i : Nat) (G : Nat → Env) (OO : Nat → Owns) (nd : X.N.Nodup) (hp : PassesOwn (model X.prog X.w) X.A X.env X.xe) (hi : ETy X O Γ e (tLst X.K ts)) (h0 : EnvLe Γ (G 0)) (o0 : OO 0 = O)
    (hb : ∀ S1 H1, Grow S0 H0 S1 H1 → ∀ n T, ts[n]? = some T → BTy X S1 H0 (OO n) ((G n).set i (some T)) body { D with nx := Nx S1 H0 (OO (n + 1)) (G (n + 1)), ct := Nx S1 H0 (OO (n + 1)) (G (n + 1)), bk := wSs X rest D })
    (hr : BTy X S0 H0 (OO ts.length) (G ts.length) rest D) (hx : X.N[i]? = some x := by rfl) (hl : Loc X.env.scope x := by first | exact Or.inl rfl | exact Or.inr rfl) (hf : X.fn x = true ∨ X.env.scope.names.lookup x = some .local := by first | exact .inl rfl | exact .inr rfl | assumption)
    (hc : X.calm = true := by rfl) (hs : ∀ x, foldedSetIterable e X.env x = pure x := by intro _; rfl) : BTy X S0 H0 O Γ (.For (.Name x pos') e body [] pos :: rest) D := fun σ S H g0 g1 o =>
  of_pss (pss_cons (ps_for hp hc (pi_list pe_w) (pg_name nd hx hl hf) pss_w hs) pss_w) (hi σ H0 S H _ g1 o g0.i fun v S1 H1 g2 ⟨a, vs, h1, h2, h3⟩ => ⟨a, h1, ⟨vs, same_l g2.i h2⟩, by
    have gg := g0.trans g2
    refine for_list (K := X.K) (a := a) (xs := vs) (fun n σ H => Nx S1 H0 (OO n) (G n) σ H) ⟨S1, gg.forth (.refl g2.i), (g1.m g2.s).le h0, by rw [o0]; exact o.grow g2⟩ (fun n σ H _ ⟨S, g, _, _⟩ => same_l (g.s.trans g.i) h2) (fun n y σ H hy h => ?_) (fun σ H h => ?_)
    · obtain ⟨T, e1, hT⟩ := h3.getV hy
      exact turn_ok (D := { D with nx := wSs X rest D }) gg hT (hb S1 H1 gg n T e1) h
    · rw [← h3.len] at h
      obtain ⟨S, g, e, o⟩ := h
      exact hr.rebase gg σ S H g e o⟩)
theorem bt_forT (i : Nat) (G : Nat → Env) (OO : Nat → Owns) (nd : X.N.Nodup) (hp : PassesOwn (model X.prog X.w) X.A X.env X.xe) (hi : ETy X O Γ e (tTup X.K ts)) (h0 : EnvLe Γ (G 0)) (o0 : OO 0 = O)
    (hb : ∀ S1 H1, Grow S0 H0 S1 H1 → ∀ n T, ts[n]? = some T → BTy X S1 H0 (OO n) ((G n).set i (some T)) body { D with nx := Nx S1 H0 (OO (n + 1)) (G (n + 1)), ct := Nx S1 H0 (OO (n + 1)) (G (n + 1)), bk := wSs X rest D })
    (hr : BTy X S0 H0 (OO ts.length) (G ts.length) rest D) (hx : X.N[i]? = some x := by rfl) (hl : Loc X.env.scope x := by first | exact Or.inl rfl | exact Or.inr rfl) (hf : X.fn x = true ∨ X.env.scope.names.lookup x = some .local := by first | exact .inl rfl | exact .inr rfl | assumption)
    (hc : X.calm = true := by rfl) (hs : ∀ x, foldedSetIterable e X.env x = pure x := by intro _; rfl) : BTy X S0 H0 O Γ (.For (.Name x pos') e body [] pos :: rest) D := fun σ S H g0 g1 o =>
  of_pss (pss_cons (ps_for hp hc (pi_tup pe_w) (pg_name nd hx hl hf) pss_w hs) pss_w) (hi σ H0 S H _ g1 o g0.i fun v S1 H1 g2 ⟨a, vs, h1, h2, h3⟩ => ⟨a, h1, ⟨vs, same_t g2.i h2⟩, by
    have gg := g0.trans g2
    refine for_tup (K := X.K) (a := a) (xs := vs) (fun n σ H => Nx S1 H0 (OO n) (G n) σ H) ⟨S1, gg.forth (.refl g2.i), (g1.m g2.s).le h0, by rw [o0]; exact o.grow g2⟩ (fun n σ H _ ⟨S, g, _, _⟩ => same_t (g.s.trans g.i) h2) (fun n y σ H hy h => ?_) (fun σ H h => ?_)
    · obtain ⟨T, e1, hT⟩ := h3.getV hy
      exact turn_ok (D := { D with nx := wSs X rest D }) gg hT (hb S1 H1 gg n T e1) h
    · rw [← h3.len] at h
      obtain ⟨S, g, e, o⟩ := h
      exact hr.rebase gg σ S H g e o⟩)
theorem bt_forR {pr pc : Pos} (i m : Nat) (G : Nat → Env) (OO : Nat → Owns) (nd : X.N.Nodup) (hp : PassesOwn (model X.prog X.w) X.A X.env X.xe) (hm : X.mg "range" = none) (hi : ETy X O Γ a (tI m)) (hsz : m ≤ 99999) (h0 : EnvLe Γ (G 0)) (o0 : OO 0 = O)
    (hb : ∀ S1 H1, Grow S0 H0 S1 H1 → ∀ n, n < m → BTy X S1 H0 (OO n) ((G n).set i (some (tI (n : Nat)))) body { D with nx := Nx S1 H0 (OO (n + 1)) (G (n + 1)), ct := Nx S1 H0 (OO (n + 1)) (G (n + 1)), bk := wSs X rest D })
    (hr : BTy X S0 H0 (OO m) (G m) rest D) (hx : X.N[i]? = some x := by rfl) (hl : Loc X.env.scope x := by first | exact Or.inl rfl | exact Or.inr rfl) (hf : X.fn x = true ∨ X.env.scope.names.lookup x = some .local := by first | exact .inl rfl | exact .inr rfl | assumption)
    (hc : X.calm = true := by rfl) (hg : Gl X "range" := by rfl) (hs1 : starEach [a] X.env = [(false, eval a X.env)] := by rfl) (hs : ∀ x, foldedSetIterable (.Call (.Name "range" pr) [a] [] pc) X.env x = pure x := by intro _; rfl) : BTy X S0 H0 O Γ (.For (.Name x pos') (.Call (.Name "range" pr) [a] [] pc) body [] pos :: rest) D := fun σ S H g0 g1 o =>
  of_pss (pss_cons (ps_for hp hc (pi_range1 hg hm pa_w hs1) (pg_name nd hx hl hf) pss_w hs) pss_w) (at_one hi hs1 σ H0 S H _ g1 o g0.i fun vs S1 H1 g2 h3 => by
    obtain ⟨v, rfl, hv⟩ := all2_1 h3
    have hv : v = .int m := hv
    subst hv
    have gg := g0.trans g2
    refine ⟨m, rfl, by omega, by omega, ?_⟩
    refine for_range (lo := 0) (n := (m : Int).toNat) (fun n σ H => Nx S1 H0 (OO n) (G n) σ H) ⟨S1, gg.forth (.refl g2.i), (g1.m g2.s).le h0, by rw [o0]; exact o.grow g2⟩ (fun n σ H hn h => ?_) (fun σ H h => ?_)
    · rw [Int.zero_add]
      exact turn_ok (T := tI (n : Nat)) (D := { D with nx := wSs X rest D }) gg rfl (hb S1 H1 gg n (by simpa using hn)) h
    · have h : Nx S1 H0 (OO m) (G m) σ H := h
      obtain ⟨S, g, e, o⟩ := h
      exact hr.rebase gg σ S H g e o)
/-- a while, by a state of its own: Inv what holds of it, μ falls -/
theorem bt_while {α : Type} (G : α → Env) (OO : α → Owns) (k : α → Bool) (nxt : α → α) (Inv : α → Prop) (μ : α → Nat) (x0 : α) (hp : PassesOwn (model X.prog X.w) X.A X.env X.xe) (i0 : Inv x0) (h0 : EnvLe Γ (G x0)) (o0 : OO x0 = O)
    (hc : ∀ x, Inv x → TTy X (OO x) (G x) c (k x)) (hμ : ∀ x, Inv x → k x = true → Inv (nxt x) ∧ μ (nxt x) < μ x) (hb : ∀ x, Inv x → k x = true → BTy X S0 H0 (OO x) (G x) body { D with nx := Nx S0 H0 (OO (nxt x)) (G (nxt x)), ct := Nx S0 H0 (OO (nxt x)) (G (nxt x)), bk := wSs X rest D })
    (hr : ∀ x, Inv x → k x = false → BTy X S0 H0 (OO x) (G x) rest D) : BTy X S0 H0 O Γ (.While c body [] pos :: rest) D := fun σ S H g0 g1 o =>
  of_pss (pss_cons (ps_while hp pt_w pss_w) pss_w) (by
    refine ⟨fun m σ H => ∃ x, Inv x ∧ μ x = m ∧ Nx S0 H0 (OO x) (G x) σ H, ⟨μ x0, x0, i0, rfl, S, g0, g1.le h0, by rw [o0]; exact o⟩, ?_⟩
    rintro m σ H ⟨x, ix, rfl, S, g, e, o⟩
    refine hc x ix σ H0 S H _ e o g.i fun S1 H1 g2 => ?_
    cases hk : k x with
    | true =>
      refine iteT ⟨Nx S0 H0 (OO (nxt x)) (G (nxt x)), fun σ' H' h => ⟨μ (nxt x), (hμ x ix hk).2, nxt x, (hμ x ix hk).1, rfl, h⟩, ?_⟩
      exact hb x ix hk σ S1 H1 (g.trans g2) (e.m g2.s) (o.grow g2)
    | false => exact iteF (hr x ix hk σ S1 H1 (g.trans g2) (e.m g2.s) (o.grow g2)))
end

/-! ### promises -/
/-- arguments of these types (for some x that the promise is made for) -> a result of this type -/
def spT {α : Type} (A : α → List Ty) (Pre : α → Prop) (R : α → Ty) : Sp := fun vs H Q _ => ∃ (x : α) (S : Hp), Same S H ∧ All2 (A x) vs S ∧ Pre x ∧ ∀ v S' H', Grow S H S' H' → (R x).p v S' → Q v H'
/-- a def of the module, as it is called -/
structure Fn (P : Program) (w : World) (K : PySem.W.Frag) (mg : Str → Option Value) (base : Heap) (nm : Str) (k : Nat) (ps : List Str) (dvs : List V) (sp : Sp) : Prop where
  ex : ∃ (f : Addr) (fd : FuncData) (ds : List Value), mg nm = some (.ref f) ∧ PySem.W.keepIn K (.ref f) = true ∧ Vals dvs ds ∧ Binds K fd ps ds ∧ FnOk P w K mg base CX0 k f fd ps sp
section
variable {X : Cx} {O : Owns} {Γ : Env} {e : Expr} {es : List Expr} {p pos : Pos} {α : Type} {A : α → List Ty} {Pre : α → Prop} {R : α → Ty} {nm : Str} {k : Nat} {ps : List Str}
theorem et_call (F : Fn X.prog X.w X.K X.mg X.base nm k ps [] (spT A Pre R)) (hr : Room k X.A) (x : α) (pre : Pre x) (ha : ATy X O Γ (e :: es) (A x)) (hg : Gl X nm := by rfl) (hd : (nm == ("__debug__" : Str)) = false := by decide) (he : starEach (e :: es) X.env = (false, eval e X.env) :: starEach es X.env := by rfl)
    (hpl : (backTo pos (starEach es X.env)).any (·.1) = false := by rfl) : ETy X O Γ (.Call (.Name nm p) (e :: es) [] pos) (R x) := fun σ F0 S H Q g o i q => by
  obtain ⟨f, fd, ds, h1, h2, h3, h4, h5⟩ := F.ex
  refine of_pe (pe_call h5 hr hg h1 h2 h4 h3 pass0 pa_w hd he hpl) (ha σ F0 S H _ g o i fun vs S1 H1 g1 t1 => ?_)
  exact ⟨x, S1, g1.i, by rw [List.append_nil]; exact t1, pre, fun v S' H' g2 t2 => q v S' H' (g1.trans g2) t2⟩
theorem all2_V : ∀ (dvs : List V) (S : Hp), All2 (dvs.map tV) dvs S
  | [], _ => .nil
  | v :: r, S => .cons rfl (all2_V r S)
theorem et_callD {dvs : List V} {ts : List Ty} (F : Fn X.prog X.w X.K X.mg X.base nm k ps dvs (spT A Pre R)) (hr : Room k X.A) (x : α) (pre : Pre x) (ha : ATy X O Γ (e :: es) ts) (hA : A x = ts ++ dvs.map tV := by rfl) (hg : Gl X nm := by rfl) (hd : (nm == ("__debug__" : Str)) = false := by decide) (he : starEach (e :: es) X.env = (false, eval e X.env) :: starEach es X.env := by rfl)
    (hpl : (backTo pos (starEach es X.env)).any (·.1) = false := by rfl) : ETy X O Γ (.Call (.Name nm p) (e :: es) [] pos) (R x) := fun σ F0 S H Q g o i q => by
  obtain ⟨f, fd, ds, h1, h2, h3, h4, h5⟩ := F.ex
  refine of_pe (pe_call h5 hr hg h1 h2 h4 h3 pass0 pa_w hd he hpl) (ha σ F0 S H _ g o i fun vs S1 H1 g1 t1 => ?_)
  exact ⟨x, S1, g1.i, by rw [hA]; exact t1.append (all2_V dvs S1), pre, fun v S' H' g2 t2 => q v S' H' (g1.trans g2) t2⟩
end
/-- a def's context while its body runs -/
abbrev Ct (P : Program) (w : World) (K : PySem.W.Frag) (mg : Str → Option Value) (base : Heap) (N : List Str) (qual : Str) (st : Stmt) (f : Addr) (cdv : Value) (A : Around) (outer : List PySem.Env) (s : Shared) (H : Hp) (E : XK) : Cx := (cxOf CX0 P w K mg base N qual (defScope st) f cdv A outer s H E).nox
theorem env_start {ts : List Ty} {vs : List V} {S : Hp} {N : List Str} (h : All2 ts vs S) (hl : ts.length ≤ N.length) : EnvOk (ts.map some ++ List.replicate (N.length - ts.length) none) (L2.start N vs) S := by
  have e := h.len
  refine ⟨by unfold L2.start; simp [e], fun i T q => ?_⟩
  have hi : i < ts.length := by
    rcases Nat.lt_or_ge i ts.length with z | z
    · exact z
    · rw [List.getElem?_append_right (by simpa using z), List.getElem?_replicate] at q
      split at q <;> cases q
  rw [List.getElem?_append_left (by simpa using hi), List.getElem?_map] at q
  cases e1 : ts[i]? with
  | none => rw [e1] at q; cases q
  | some U =>
    rw [e1] at q
    cases q
    obtain ⟨v, e2, hv⟩ := h.get e1
    refine ⟨v, ?_, hv⟩
    unfold L2.start
    rw [List.getElem?_append_left (by rw [List.length_map]; exact (List.getElem?_eq_some_iff.mp e2).1), List.getElem?_map, e2]
    rfl
/-- THE RULE: a def keeps its promise -/
theorem fn_ok {P : Program} {w : World} {K : PySem.W.Frag} {mg : Str → Option Value} {base : Heap} {nm qual : Str} {st : Stmt} {f : Addr} {fd : FuncData} {dV : List V} {kws : List (Str × V)} {N ps : List Str} {k : Nat} {α : Type} {A : α → List Ty} {Pre : α → Prop} {R : α → Ty}
    (F : FunD K nm qual (defArgs st) (defBody st) (defScope st) dV kws f fd) (sc : FnScope N ps (defScope st)) (hA : ∀ x, (A x).length = ps.length)
    (body : ∀ (f : Addr) (cdv : Value) (Ar : Around) (outer : List PySem.Env) (s : Shared) (H : Hp) (E : XK) (x : α), Pre x → Room k (Ar.deeper (envOfC qual (defScope st) s.heap.objs.size f cdv)) → ∀ (S : Hp) (D : Ends), RetOk S H (R x) D.rt → (∀ σ H', D.nx σ H' = D.rt .non H') →
      BTy (Ct P w K mg base N qual st f cdv Ar outer s H E) S H [] ((A x).map some ++ List.replicate (N.length - (A x).length) none) (defBody st) D) : FnOk P w K mg base CX0 (k + 1) f fd ps (spT A Pre R) := by
  have hps : ps.length ≤ N.length := by have := congrArg List.length sc.pre; rw [List.length_take] at this; omega
  refine F.ok sc (fun vs H Q E ⟨x, S, _, h, _⟩ => by rw [← h.len, hA]) fun cdv Ar outer s H vs Q E hr ⟨x, S, i, h, pre, q⟩ => ?_
  refine ⟨_, PSs.nox pss_w, ?_⟩
  exact body f cdv Ar outer s H E x pre hr S { nx := fun _ H' => Q .non H', rt := Q } (fun v S' H' g r => q v S' H' g r) (fun _ _ => rfl) (L2.start N vs) S H (.refl i) (env_start h (by rw [hA]; exact hps)) .nil
theorem fn_of' {P : Program} {w : World} {K : PySem.W.Frag} {mg : Str → Option Value} {base : Heap} {nm : Str} {st : Stmt} {N ps : List Str} {k : Nat} {α : Type} {A : α → List Ty} {Pre : α → Prop} {R : α → Ty}
    (F : ∃ f fd, mg nm = some (.ref f) ∧ FunD K nm nm (defArgs st) (defBody st) (defScope st) [] [] f fd) (hb : ∀ (kV doc pm : Value) (an : Option Addr) (cdv ct : Value) (us : List Value), us.length = ps.length → bindArgs (PySem.W.fnOf nm nm (defArgs st) (defBody st) (defScope st) .none kV doc pm an cdv ct) ⟨us, []⟩ = pure (ps.zip us))
    (sc : FnScope N ps (defScope st)) (hA : ∀ x, (A x).length = ps.length)
    (body : ∀ (f : Addr) (cdv : Value) (Ar : Around) (outer : List PySem.Env) (s : Shared) (H : Hp) (E : XK) (x : α), Pre x → Room k (Ar.deeper (envOfC nm (defScope st) s.heap.objs.size f cdv)) → ∀ (S : Hp) (D : Ends), RetOk S H (R x) D.rt → (∀ σ H', D.nx σ H' = D.rt .non H') →
      BTy (Ct P w K mg base N nm st f cdv Ar outer s H E) S H [] ((A x).map some ++ List.replicate (N.length - (A x).length) none) (defBody st) D) : Fn P w K mg base nm (k + 1) ps [] (spT A Pre R) := by
  obtain ⟨f, fd, h1, F⟩ := F
  exact ⟨f, fd, [], h1, F.kp, .nil, F.bindsN hb, fn_ok F sc hA body⟩
end K79
set_option Elab.async false
set_option linter.all false
set_option maxRecDepth 100000
/-! KK: a hook of our own: few objects (the module's names, their codes and defaults, two classes' own names), the facts of HeadHook1, 2 over them. -/
namespace K79
open PySem L2
def refsAt (g : Addr → Option Obj) (a : Addr) : List Addr := match g a with
  | some o => He.refsD o
  | none => []
def nsAt (g : Addr → Option Obj) (a : Addr) : List Addr := match g a with
  | some ⟨_, _, .cls cd, _⟩ => [cd.ns]
  | _ => []
/-- a list of numbers, each reckoned out -/
def frL {α : Type} : List Addr → (List Addr → α) → α
  | [], k => k []
  | a :: r, k => match a with
    | 0 => frL r fun l => k (0 :: l)
    | n + 1 => frL r fun l => k ((n + 1) :: l)
theorem frL_eq {α : Type} : ∀ (l : List Addr) (k : List Addr → α), frL l k = k l
  | [], _ => rfl
  | 0 :: r, k => by
    show frL r _ = _
    rw [frL_eq]
  | (n + 1) :: r, k => by
    show frL r _ = _
    rw [frL_eq]
def selG (cs : List Str) (g : Addr → Option Obj) : List Addr :=
  frL (refsAt g PySem.mainGlobals) fun l1 =>
  frL (l1.flatMap (refsAt g)) fun l2 =>
  frL (cs.flatMap fun c => nsAt g (He.ga (He.frG g [PySem.mainGlobals]) c)) fun n =>
  frL (n.flatMap (refsAt g)) fun l3 =>
  frL (l3.flatMap (refsAt g)) fun l4 =>
  frL (l4.flatMap (refsAt g)) fun l5 => PySem.mainGlobals :: (l1 ++ (l2 ++ (n ++ (l3 ++ (l4 ++ l5)))))
abbrev AlS : Type := He.AlD × (Bool × He.FnW)
def obsS (cs : List Str) (fa : List He.Fa) (fn : List He.DefD) (ex : PySem.W.Frag → Bool) (gx : PySem.W.Frag → He.FnW) (g : Addr → Option Obj) : AlS := (fun K => (He.obsD fa fn K, (ex K, gx K))) (He.frG g (selG cs g))
def hookS (cs : List Str) (fa : List He.Fa) (fn : List He.DefD) (ex : PySem.W.Frag → Bool) (gx : PySem.W.Frag → He.FnW) (gv : He.FnW) : PySem.W.Hook where
  α := AlS
  obs := fun s => obsS cs fa fn ex gx s.heap.get?
  val := fun _ => (He.valD fn, (true, gv))
  says := fun _ h => ∃ K : PySem.W.Frag, K.In h ∧ He.SaysD fa fn K ∧ ex K = true ∧ gx K = gv
  of := fun _ _ e => ⟨_, He.frG_in, congrArg Prod.fst e, congrArg (fun z : AlS => z.2.1) e, congrArg (fun z : AlS => z.2.2) e⟩
  keeps := fun _ _ _ ⟨K, hK, c⟩ k => ⟨K, PySem.W.Frag.In.keeps hK k, c⟩
theorem obsS_eq {cs : List Str} {fa : List He.Fa} {fn : List He.DefD} {ex : PySem.W.Frag → Bool} {gx : PySem.W.Frag → He.FnW} {gv : He.FnW} {g : Addr → Option Obj} {s : Shared} (h : ∀ a, g a = s.heap.get? a) : obsS cs fa fn ex gx g = (hookS cs fa fn ex gx gv).obs s := by
  have e : g = s.heap.get? := funext h
  rw [e] <;> rfl
end K79
set_option Elab.async false
set_option linter.all false
set_option maxRecDepth 100000
/-! KT: the text by places, the defs as data, what the head tells, by names. Printed by genhead.py; the getter's facts added by hand. -/
namespace K79
open PySem L2
def topS (i : Nat) : Stmt := PySem.Challenge.pw_hushedwires_k79_whole_words_by_their_ord.main.body.getD i (.Pass ⟨0, 0, 0, 0⟩)
abbrev sIsWhole : Stmt := topS 18
def dIsWhole : He.DefD := ⟨("is_whole", none), "is_whole", "is_whole", defArgs sIsWhole, defBody sIsWhole, defScope sIsWhole, [.non, .non], []⟩
abbrev sSharedDivisor : Stmt := topS 19
def dSharedDivisor : He.DefD := ⟨("shared_divisor", none), "shared_divisor", "shared_divisor", defArgs sSharedDivisor, defBody sSharedDivisor, defScope sSharedDivisor, [], []⟩
abbrev sLowest : Stmt := topS 20
def dLowest : He.DefD := ⟨("lowest", none), "lowest", "lowest", defArgs sLowest, defBody sLowest, defScope sLowest, [], []⟩
abbrev sIsRatio : Stmt := topS 21
def dIsRatio : He.DefD := ⟨("is_ratio", none), "is_ratio", "is_ratio", defArgs sIsRatio, defBody sIsRatio, defScope sIsRatio, [], []⟩
abbrev sPlus : Stmt := topS 22
def dPlus : He.DefD := ⟨("plus", none), "plus", "plus", defArgs sPlus, defBody sPlus, defScope sPlus, [], []⟩
abbrev sNegative : Stmt := topS 23
def dNegative : He.DefD := ⟨("negative", none), "negative", "negative", defArgs sNegative, defBody sNegative, defScope sNegative, [], []⟩
abbrev sTimes : Stmt := topS 24
def dTimes : He.DefD := ⟨("times", none), "times", "times", defArgs sTimes, defBody sTimes, defScope sTimes, [], []⟩
abbrev sCompare : Stmt := topS 25
def dCompare : He.DefD := ⟨("compare", none), "compare", "compare", defArgs sCompare, defBody sCompare, defScope sCompare, [], []⟩
abbrev sSumOf : Stmt := topS 26
def dSumOf : He.DefD := ⟨("sum_of", none), "sum_of", "sum_of", defArgs sSumOf, defBody sSumOf, defScope sSumOf, [], []⟩
abbrev sPowerOf : Stmt := topS 27
def dPowerOf : He.DefD := ⟨("power_of", none), "power_of", "power_of", defArgs sPowerOf, defBody sPowerOf, defScope sPowerOf, [], []⟩
abbrev sCheckLengths : Stmt := topS 30
def dCheckLengths : He.DefD := ⟨("check_lengths", none), "check_lengths", "check_lengths", defArgs sCheckLengths, defBody sCheckLengths, defScope sCheckLengths, [], []⟩
abbrev sWeighedHum : Stmt := topS 34
def dWeighedHum : He.DefD := ⟨("weighed_hum", none), "weighed_hum", "weighed_hum", defArgs sWeighedHum, defBody sWeighedHum, defScope sWeighedHum, [], []⟩
abbrev sWholeSteps : Stmt := topS 35
def dWholeSteps : He.DefD := ⟨("whole_steps", none), "whole_steps", "whole_steps", defArgs sWholeSteps, defBody sWholeSteps, defScope sWholeSteps, [], []⟩
abbrev sLedRow : Stmt := topS 36
def dLedRow : He.DefD := ⟨("led_row", none), "led_row", "led_row", defArgs sLedRow, defBody sLedRow, defScope sLedRow, [], []⟩
abbrev sSignsAt : Stmt := topS 37
def dSignsAt : He.DefD := ⟨("signs_at", none), "signs_at", "signs_at", defArgs sSignsAt, defBody sSignsAt, defScope sSignsAt, [], []⟩
abbrev sWholeLayers : Stmt := topS 38
def dWholeLayers : He.DefD := ⟨("whole_layers", none), "whole_layers", "whole_layers", defArgs sWholeLayers, defBody sWholeLayers, defScope sWholeLayers, [], []⟩
abbrev sWaysOf : Stmt := topS 39
def dWaysOf : He.DefD := ⟨("ways_of", none), "ways_of", "ways_of", defArgs sWaysOf, defBody sWaysOf, defScope sWaysOf, [], []⟩
abbrev sPickWord : Stmt := topS 40
def dPickWord : He.DefD := ⟨("pick_word", none), "pick_word", "pick_word", defArgs sPickWord, defBody sPickWord, defScope sPickWord, [], []⟩
abbrev sCheckRow : Stmt := topS 42
def dCheckRow : He.DefD := ⟨("check_row", none), "check_row", "check_row", defArgs sCheckRow, defBody sCheckRow, defScope sCheckRow, [], []⟩
abbrev sCheckSigns : Stmt := topS 43
def dCheckSigns : He.DefD := ⟨("check_signs", none), "check_signs", "check_signs", defArgs sCheckSigns, defBody sCheckSigns, defScope sCheckSigns, [], []⟩
abbrev sCheckWord : Stmt := topS 44
def dCheckWord : He.DefD := ⟨("check_word", none), "check_word", "check_word", defArgs sCheckWord, defBody sCheckWord, defScope sCheckWord, [], []⟩
abbrev sCrossingsOf : Stmt := topS 45
def dCrossingsOf : He.DefD := ⟨("crossings_of", none), "crossings_of", "crossings_of", defArgs sCrossingsOf, defBody sCrossingsOf, defScope sCrossingsOf, [], []⟩
abbrev sTurnedWord : Stmt := topS 46
def dTurnedWord : He.DefD := ⟨("turned_word", none), "turned_word", "turned_word", defArgs sTurnedWord, defBody sTurnedWord, defScope sTurnedWord, [], []⟩
abbrev sBackwardWord : Stmt := topS 47
def dBackwardWord : He.DefD := ⟨("backward_word", none), "backward_word", "backward_word", defArgs sBackwardWord, defBody sBackwardWord, defScope sBackwardWord, [], []⟩
abbrev sNumberOfWord : Stmt := topS 48
def dNumberOfWord : He.DefD := ⟨("number_of_word", none), "number_of_word", "number_of_word", defArgs sNumberOfWord, defBody sNumberOfWord, defScope sNumberOfWord, [], []⟩
abbrev sWeighHum : Stmt := topS 51
def dWeighHum : He.DefD := ⟨("weigh_hum", none), "weigh_hum", "weigh_hum", defArgs sWeighHum, defBody sWeighHum, defScope sWeighHum, [], []⟩
abbrev sMarkHum : Stmt := topS 52
def dMarkHum : He.DefD := ⟨("mark_hum", none), "mark_hum", "mark_hum", defArgs sMarkHum, defBody sMarkHum, defScope sMarkHum, [], []⟩
abbrev sAreRatios : Stmt := topS 53
def dAreRatios : He.DefD := ⟨("are_ratios", none), "are_ratios", "are_ratios", defArgs sAreRatios, defBody sAreRatios, defScope sAreRatios, [], []⟩
abbrev sCheckSpan : Stmt := topS 58
def dCheckSpan : He.DefD := ⟨("check_span", none), "check_span", "check_span", defArgs sCheckSpan, defBody sCheckSpan, defScope sCheckSpan, [], []⟩
abbrev sDegreeSpan : Stmt := topS 59
def dDegreeSpan : He.DefD := ⟨("degree_span", none), "degree_span", "degree_span", defArgs sDegreeSpan, defBody sDegreeSpan, defScope sDegreeSpan, [], []⟩
abbrev sHeardBy : Stmt := topS 60
def dHeardBy : He.DefD := ⟨("heard_by", none), "heard_by", "heard_by", defArgs sHeardBy, defBody sHeardBy, defScope sHeardBy, [], []⟩
abbrev sCheckAsked : Stmt := topS 62
def dCheckAsked : He.DefD := ⟨("check_asked", none), "check_asked", "check_asked", defArgs sCheckAsked, defBody sCheckAsked, defScope sCheckAsked, [], []⟩
abbrev sToldHums : Stmt := topS 64
def dToldHums : He.DefD := ⟨("told_hums", none), "told_hums", "told_hums", defArgs sToldHums, defBody sToldHums, defScope sToldHums, [], []⟩
abbrev sCountWays : Stmt := topS 65
def dCountWays : He.DefD := ⟨("count_ways", none), "count_ways", "count_ways", defArgs sCountWays, defBody sCountWays, defScope sCountWays, [], []⟩
abbrev sHushedWords : Stmt := topS 66
def dHushedWords : He.DefD := ⟨("hushed_words", none), "hushed_words", "hushed_words", defArgs sHushedWords, defBody sHushedWords, defScope sHushedWords, [], []⟩
abbrev sCountHushed : Stmt := topS 67
def dCountHushed : He.DefD := ⟨("count_hushed", none), "count_hushed", "count_hushed", defArgs sCountHushed, defBody sCountHushed, defScope sCountHushed, [], []⟩
abbrev sHushedNumber : Stmt := topS 68
def dHushedNumber : He.DefD := ⟨("hushed_number", none), "hushed_number", "hushed_number", defArgs sHushedNumber, defBody sHushedNumber, defScope sHushedNumber, [], []⟩
abbrev sHushedByNumber : Stmt := topS 69
def dHushedByNumber : He.DefD := ⟨("hushed_by_number", none), "hushed_by_number", "hushed_by_number", defArgs sHushedByNumber, defBody sHushedByNumber, defScope sHushedByNumber, [], []⟩
abbrev sFewestAhead : Stmt := topS 70
def dFewestAhead : He.DefD := ⟨("fewest_ahead", none), "fewest_ahead", "fewest_ahead", defArgs sFewestAhead, defBody sFewestAhead, defScope sFewestAhead, [], []⟩
abbrev sLeastCrossed : Stmt := topS 71
def dLeastCrossed : He.DefD := ⟨("least_crossed", none), "least_crossed", "least_crossed", defArgs sLeastCrossed, defBody sLeastCrossed, defScope sLeastCrossed, [], []⟩
abbrev sOrderNoise : Stmt := topS 74
def dOrderNoise : He.DefD := ⟨("order_noise", none), "order_noise", "order_noise", defArgs sOrderNoise, defBody sOrderNoise, defScope sOrderNoise, [], []⟩
abbrev sOrderOf : Stmt := topS 75
def dOrderOf : He.DefD := ⟨("order_of", none), "order_of", "order_of", defArgs sOrderOf, defBody sOrderOf, defScope sOrderOf, [], []⟩
abbrev sLengthBar : Stmt := topS 76
def dLengthBar : He.DefD := ⟨("length_bar", none), "length_bar", "length_bar", defArgs sLengthBar, defBody sLengthBar, defScope sLengthBar, [], []⟩
abbrev sLLawHand : Stmt := topS 78
def dLLawHand : He.DefD := ⟨("_law_hand", none), "_law_hand", "_law_hand", defArgs sLLawHand, defBody sLLawHand, defScope sLLawHand, [], []⟩
abbrev sLLawMixed : Stmt := topS 79
def dLLawMixed : He.DefD := ⟨("_law_mixed", none), "_law_mixed", "_law_mixed", defArgs sLLawMixed, defBody sLLawMixed, defScope sLLawMixed, [], []⟩
abbrev sLLawTake : Stmt := topS 80
def dLLawTake : He.DefD := ⟨("_law_take", none), "_law_take", "_law_take", defArgs sLLawTake, defBody sLLawTake, defScope sLLawTake, [], []⟩
abbrev sLLawGcd : Stmt := topS 81
def dLLawGcd : He.DefD := ⟨("_law_gcd", none), "_law_gcd", "_law_gcd", defArgs sLLawGcd, defBody sLLawGcd, defScope sLLawGcd, [], []⟩
abbrev sLLawRatio : Stmt := topS 82
def dLLawRatio : He.DefD := ⟨("_law_ratio", none), "_law_ratio", "_law_ratio", defArgs sLLawRatio, defBody sLLawRatio, defScope sLLawRatio, [], []⟩
abbrev sLLawPlus : Stmt := topS 83
def dLLawPlus : He.DefD := ⟨("_law_plus", none), "_law_plus", "_law_plus", defArgs sLLawPlus, defBody sLLawPlus, defScope sLLawPlus, [], []⟩
abbrev sLLawTimes : Stmt := topS 84
def dLLawTimes : He.DefD := ⟨("_law_times", none), "_law_times", "_law_times", defArgs sLLawTimes, defBody sLLawTimes, defScope sLLawTimes, [], []⟩
abbrev sLLawPower : Stmt := topS 85
def dLLawPower : He.DefD := ⟨("_law_power", none), "_law_power", "_law_power", defArgs sLLawPower, defBody sLLawPower, defScope sLLawPower, [], []⟩
abbrev sLLawNoise : Stmt := topS 86
def dLLawNoise : He.DefD := ⟨("_law_noise", none), "_law_noise", "_law_noise", defArgs sLLawNoise, defBody sLLawNoise, defScope sLLawNoise, [], []⟩
abbrev sLLawMarkHum : Stmt := topS 87
def dLLawMarkHum : He.DefD := ⟨("_law_mark_hum", none), "_law_mark_hum", "_law_mark_hum", defArgs sLLawMarkHum, defBody sLLawMarkHum, defScope sLLawMarkHum, [], []⟩
abbrev sLLawOrder : Stmt := topS 88
def dLLawOrder : He.DefD := ⟨("_law_order", none), "_law_order", "_law_order", defArgs sLLawOrder, defBody sLLawOrder, defScope sLLawOrder, [], []⟩
abbrev sLLawEven : Stmt := topS 89
def dLLawEven : He.DefD := ⟨("_law_even", none), "_law_even", "_law_even", defArgs sLLawEven, defBody sLLawEven, defScope sLLawEven, [], []⟩
abbrev sLLawPoles : Stmt := topS 90
def dLLawPoles : He.DefD := ⟨("_law_poles", none), "_law_poles", "_law_poles", defArgs sLLawPoles, defBody sLLawPoles, defScope sLLawPoles, [], []⟩
abbrev sLLawTurned : Stmt := topS 91
def dLLawTurned : He.DefD := ⟨("_law_turned", none), "_law_turned", "_law_turned", defArgs sLLawTurned, defBody sLLawTurned, defScope sLLawTurned, [], []⟩
abbrev sLLawBack : Stmt := topS 92
def dLLawBack : He.DefD := ⟨("_law_back", none), "_law_back", "_law_back", defArgs sLLawBack, defBody sLLawBack, defScope sLLawBack, [], []⟩
abbrev sLLawSigns : Stmt := topS 93
def dLLawSigns : He.DefD := ⟨("_law_signs", none), "_law_signs", "_law_signs", defArgs sLLawSigns, defBody sLLawSigns, defScope sLLawSigns, [], []⟩
abbrev sLLawLine : Stmt := topS 94
def dLLawLine : He.DefD := ⟨("_law_line", none), "_law_line", "_law_line", defArgs sLLawLine, defBody sLLawLine, defScope sLLawLine, [], []⟩
abbrev sLLawIsWord : Stmt := topS 95
def dLLawIsWord : He.DefD := ⟨("_law_is_word", none), "_law_is_word", "_law_is_word", defArgs sLLawIsWord, defBody sLLawIsWord, defScope sLLawIsWord, [], []⟩
abbrev sLLawIsNumber : Stmt := topS 96
def dLLawIsNumber : He.DefD := ⟨("_law_is_number", none), "_law_is_number", "_law_is_number", defArgs sLLawIsNumber, defBody sLLawIsNumber, defScope sLLawIsNumber, [], []⟩
abbrev sLLawBuiltLine : Stmt := topS 97
def dLLawBuiltLine : He.DefD := ⟨("_law_built_line", none), "_law_built_line", "_law_built_line", defArgs sLLawBuiltLine, defBody sLLawBuiltLine, defScope sLLawBuiltLine, [], []⟩
abbrev sLLawEvenGrown : Stmt := topS 98
def dLLawEvenGrown : He.DefD := ⟨("_law_even_grown", none), "_law_even_grown", "_law_even_grown", defArgs sLLawEvenGrown, defBody sLLawEvenGrown, defScope sLLawEvenGrown, [], []⟩
abbrev sLLawAreWords : Stmt := topS 99
def dLLawAreWords : He.DefD := ⟨("_law_are_words", none), "_law_are_words", "_law_are_words", defArgs sLLawAreWords, defBody sLLawAreWords, defScope sLLawAreWords, [], []⟩
abbrev sLLawSame : Stmt := topS 100
def dLLawSame : He.DefD := ⟨("_law_same", none), "_law_same", "_law_same", defArgs sLLawSame, defBody sLLawSame, defScope sLLawSame, [], []⟩
abbrev sLLawNumbered : Stmt := topS 101
def dLLawNumbered : He.DefD := ⟨("_law_numbered", none), "_law_numbered", "_law_numbered", defArgs sLLawNumbered, defBody sLLawNumbered, defScope sLLawNumbered, [], []⟩
abbrev sLaw : Stmt := topS 102
def dLaw : He.DefD := ⟨("law", none), "law", "law", defArgs sLaw, defBody sLaw, defScope sLaw, [], []⟩
abbrev sLineInit : Stmt := inClass (topS 31) 0
def dLineInit : He.DefD := ⟨("Line", some "__init__"), "__init__", "Line.__init__", defArgs sLineInit, defBody sLineInit, defScope sLineInit, [], []⟩
abbrev sLineLen : Stmt := inClass (topS 31) 1
def dLineLen : He.DefD := ⟨("Line", some "__len__"), "__len__", "Line.__len__", defArgs sLineLen, defBody sLineLen, defScope sLineLen, [], []⟩
abbrev sLineEq : Stmt := inClass (topS 31) 2
abbrev sLineEven : Stmt := inClass (topS 31) 3
abbrev sLineIsEven : Stmt := inClass (topS 31) 4
abbrev sLineCutSection : Stmt := inClass (topS 31) 5
abbrev sLineBackward : Stmt := inClass (topS 31) 6
def dLineBackward : He.DefD := ⟨("Line", some "backward"), "backward", "Line.backward", defArgs sLineBackward, defBody sLineBackward, defScope sLineBackward, [], []⟩
abbrev sLineGrown : Stmt := inClass (topS 31) 7
def dLineGrown : He.DefD := ⟨("Line", some "grown"), "grown", "Line.grown", defArgs sLineGrown, defBody sLineGrown, defScope sLineGrown, [], []⟩
abbrev sLineShifted : Stmt := inClass (topS 31) 8
def dLineShifted : He.DefD := ⟨("Line", some "shifted"), "shifted", "Line.shifted", defArgs sLineShifted, defBody sLineShifted, defScope sLineShifted, [], []⟩
abbrev sLineJoinedTo : Stmt := inClass (topS 31) 9
abbrev sSpanInit : Stmt := inClass (topS 56) 0
def dSpanInit : He.DefD := ⟨("Span", some "__init__"), "__init__", "Span.__init__", defArgs sSpanInit, defBody sSpanInit, defScope sSpanInit, [], []⟩
abbrev sSpanSections : Stmt := inClass (topS 56) 1
abbrev sSpanLen : Stmt := inClass (topS 56) 2
abbrev sSpanIter : Stmt := inClass (topS 56) 3
abbrev sSpanEq : Stmt := inClass (topS 56) 4
def fn0 : List He.DefD := [dIsWhole, dSharedDivisor, dLowest, dIsRatio, dPlus, dNegative, dTimes, dCompare, dSumOf, dPowerOf, dCheckLengths, dWeighedHum, dWholeSteps, dLedRow, dSignsAt, dWholeLayers, dWaysOf, dPickWord, dCheckRow, dCheckSigns, dCheckWord, dCrossingsOf, dTurnedWord, dBackwardWord, dNumberOfWord]
def fn1 : List He.DefD := [dWeighHum, dMarkHum, dAreRatios, dCheckSpan, dDegreeSpan, dHeardBy, dCheckAsked, dToldHums, dCountWays, dHushedWords, dCountHushed, dHushedNumber, dHushedByNumber, dFewestAhead, dLeastCrossed, dOrderNoise, dOrderOf, dLengthBar, dLLawHand, dLLawMixed, dLLawTake, dLLawGcd, dLLawRatio, dLLawPlus, dLLawTimes]
def fn2 : List He.DefD := [dLLawPower, dLLawNoise, dLLawMarkHum, dLLawOrder, dLLawEven, dLLawPoles, dLLawTurned, dLLawBack, dLLawSigns, dLLawLine, dLLawIsWord, dLLawIsNumber, dLLawBuiltLine, dLLawEvenGrown, dLLawAreWords, dLLawSame, dLLawNumbered, dLaw, dLineInit, dLineLen, dLineBackward, dLineGrown, dLineShifted, dSpanInit]
def fn : List He.DefD := fn0 ++ fn1 ++ fn2
def fa0 : List He.Fa := [.glo "is_whole", .glo "shared_divisor", .glo "lowest", .glo "is_ratio", .glo "plus", .glo "negative", .glo "times", .glo "compare", .glo "sum_of", .glo "power_of", .glo "check_lengths", .glo "weighed_hum", .glo "whole_steps", .glo "led_row", .glo "signs_at", .glo "whole_layers", .glo "ways_of", .glo "pick_word", .glo "check_row", .glo "check_signs", .glo "check_word", .glo "crossings_of", .glo "turned_word", .glo "backward_word", .glo "number_of_word"]
def fa1 : List He.Fa := [.glo "weigh_hum", .glo "mark_hum", .glo "are_ratios", .glo "check_span", .glo "degree_span", .glo "heard_by", .glo "check_asked", .glo "told_hums", .glo "count_ways", .glo "hushed_words", .glo "count_hushed", .glo "hushed_number", .glo "hushed_by_number", .glo "fewest_ahead", .glo "least_crossed", .glo "order_noise", .glo "order_of", .glo "length_bar", .glo "_law_hand", .glo "_law_mixed", .glo "_law_take", .glo "_law_gcd", .glo "_law_ratio", .glo "_law_plus", .glo "_law_times"]
def fa2 : List He.Fa := [.glo "_law_power", .glo "_law_noise", .glo "_law_mark_hum", .glo "_law_order", .glo "_law_even", .glo "_law_poles", .glo "_law_turned", .glo "_law_back", .glo "_law_signs", .glo "_law_line", .glo "_law_is_word", .glo "_law_is_number", .glo "_law_built_line", .glo "_law_even_grown", .glo "_law_are_words", .glo "_law_same", .glo "_law_numbered", .glo "law", .glo "Line", .glo "Span", .glo "ZERO", .glo "ONE", .free "isinstance", .free "bool", .free "int"]
def fa3 : List He.Fa := [.free "list", .free "tuple", .free "len", .free "range", .free "abs", .free "enumerate", .free "sum", .free "min", .free "sorted", .int "MOST_SECTIONS" 24, .int "MOST_ROWS" 4096, .int "MOST_POWER" 23, .int "MOST_HUMS" 6, .int "MOST_EVEN" (10 ^ 30), .cls "Line", .cls "Span", .noat "Line" "lengths", .noat "Line" "marks", .noat "Span" "hums", .meth "Line" "backward", .meth "Line" "grown", .meth "Line" "shifted", .meth "Line" "__len__", .mkr "Line", .mkr "Span"]
def fa : List He.Fa := fa0 ++ fa1 ++ fa2 ++ fa3
def exB (K : PySem.W.Frag) : Bool := He.tupB K "ZERO" [.int 0, .int 1] && He.tupB K "ONE" [.int 1, .int 1]
/-! the property Span.sections: its object, its getter -/
def secP (K : PySem.W.Frag) : Addr := He.ma K (He.ga K "Span") "sections"
def recRef : Option (List Value) → Option Addr
  | some (.ref g :: _) => some g
  | _ => none
def secG (K : PySem.W.Frag) : Addr := (recRef (PySem.W.recIn K (secP K) "property")).getD 0
def fnWA (K : PySem.W.Frag) (a : Addr) : He.FnW := match K.lookup a with
  | some ⟨_, _, .func fd, _⟩ => some (fd.name, fd.qualname, fd.params, fd.body, fd.scope, fd.globals, fd.closure, fd.builtins)
  | _ => none
def secV : He.FnW := some ("sections", "Span.sections", defArgs sSpanSections, .stmts (defBody sSpanSections), defScope sSpanSections, mainGlobals, [], builtinsNs)
def secB (K : PySem.W.Frag) : Bool := (He.eqO (PySem.W.findIn K (.ref (He.ga K "Span")) "sections") (some (some (.ref (secP K)))) && (He.eqO (PySem.W.specialIn K (.ref (secP K)) "__get__") (some (some (.builtin "property.__get__"))) && (decide (PySem.W.takesIn K (.ref (secP K)) = some true) && (recRef (PySem.W.recIn K (secP K) "property")).isSome))) &&
  (PySem.W.keepIn K (.ref (secG K)) && (match K.lookup (secG K) with
    | some ⟨_, _, .func fd, _⟩ => PySem.W.codeIn K fd.code "Span.sections" && He.dflB K fd.defaults []
    | _ => false))
structure Txt (K : PySem.W.Frag) (mg : Str → Option Value) : Prop where
  says : He.SaysD fa fn K
  ex : exB K = true
  sx : secB K = true
  sv : fnWA K (secG K) = secV
  hp : ∃ h : Heap, K.In h ∧ h.Ns mainGlobals mg
section
variable {K : PySem.W.Frag} {mg : Str → Option Value} (T : Txt K mg)
include T
theorem Txt.glo {x : Str} (i : Nat) (h : fa[i]? = some (.glo x)) : mg x = some (.ref (He.ga K x)) := by
  obtain ⟨h1, h2, h3⟩ := T.hp
  exact He.glo_ok h2 h3 (T.says.fact i h)
theorem Txt.free {x : Str} (i : Nat) (h : fa[i]? = some (.free x)) : mg x = none := by
  obtain ⟨h1, h2, h3⟩ := T.hp
  exact He.free_ok h2 h3 (T.says.fact i h)
theorem Txt.int {x : Str} {n : Int} (i : Nat) (h : fa[i]? = some (.int x n)) : ∃ t, mg x = some (.int n t) := by
  obtain ⟨h1, h2, h3⟩ := T.hp
  exact He.int_ok h2 h3 (T.says.fact i h)
theorem Txt.f_isinstance : mg "isinstance" = none := T.free 72 rfl
theorem Txt.f_bool : mg "bool" = none := T.free 73 rfl
theorem Txt.f_int : mg "int" = none := T.free 74 rfl
theorem Txt.f_list : mg "list" = none := T.free 75 rfl
theorem Txt.f_tuple : mg "tuple" = none := T.free 76 rfl
theorem Txt.f_len : mg "len" = none := T.free 77 rfl
theorem Txt.f_range : mg "range" = none := T.free 78 rfl
theorem Txt.f_abs : mg "abs" = none := T.free 79 rfl
theorem Txt.f_enumerate : mg "enumerate" = none := T.free 80 rfl
theorem Txt.f_sum : mg "sum" = none := T.free 81 rfl
theorem Txt.f_min : mg "min" = none := T.free 82 rfl
theorem Txt.f_sorted : mg "sorted" = none := T.free 83 rfl
theorem Txt.i_MOST_SECTIONS : ∃ t, mg "MOST_SECTIONS" = some (.int 24 t) := T.int 84 rfl
theorem Txt.i_MOST_ROWS : ∃ t, mg "MOST_ROWS" = some (.int 4096 t) := T.int 85 rfl
theorem Txt.i_MOST_POWER : ∃ t, mg "MOST_POWER" = some (.int 23 t) := T.int 86 rfl
theorem Txt.i_MOST_HUMS : ∃ t, mg "MOST_HUMS" = some (.int 6 t) := T.int 87 rfl
theorem Txt.i_MOST_EVEN : ∃ t, mg "MOST_EVEN" = some (.int (10 ^ 30) t) := T.int 88 rfl
theorem Txt.g_Line : mg "Line" = some (.ref (He.ga K "Line")) := T.glo 68 rfl
theorem Txt.g_Span : mg "Span" = some (.ref (He.ga K "Span")) := T.glo 69 rfl
theorem Txt.g_ZERO : mg "ZERO" = some (.ref (He.ga K "ZERO")) := T.glo 70 rfl
theorem Txt.g_ONE : mg "ONE" = some (.ref (He.ga K "ONE")) := T.glo 71 rfl
theorem Txt.clsLine : Cls K (He.ga K "Line") := He.cls_ok (T.says.fact 89 rfl)
theorem Txt.mkLine : Mk K (He.ga K "Line") (He.ma K (He.ga K "Line") "__init__") := He.mkr_ok (T.says.fact 98 rfl)
theorem Txt.clsSpan : Cls K (He.ga K "Span") := He.cls_ok (T.says.fact 90 rfl)
theorem Txt.mkSpan : Mk K (He.ga K "Span") (He.ma K (He.ga K "Span") "__init__") := He.mkr_ok (T.says.fact 99 rfl)
theorem Txt.no_lengths : NoAttr K (He.ga K "Line") "lengths" := He.noat_ok (T.says.fact 91 rfl)
theorem Txt.no_marks : NoAttr K (He.ga K "Line") "marks" := He.noat_ok (T.says.fact 92 rfl)
theorem Txt.no_hums : NoAttr K (He.ga K "Span") "hums" := He.noat_ok (T.says.fact 93 rfl)
theorem Txt.m_backward : Meth K (He.ga K "Line") "backward" (He.ma K (He.ga K "Line") "backward") := He.meth_ok (T.says.fact 94 rfl)
theorem Txt.m_grown : Meth K (He.ga K "Line") "grown" (He.ma K (He.ga K "Line") "grown") := He.meth_ok (T.says.fact 95 rfl)
theorem Txt.m_shifted : Meth K (He.ga K "Line") "shifted" (He.ma K (He.ga K "Line") "shifted") := He.meth_ok (T.says.fact 96 rfl)
theorem Txt.m___len__ : Meth K (He.ga K "Line") "__len__" (He.ma K (He.ga K "Line") "__len__") := He.meth_ok (T.says.fact 97 rfl)
theorem Txt.d_is_whole : ∃ f fd, mg "is_whole" = some (.ref f) ∧ FunD K "is_whole" "is_whole" (defArgs sIsWhole) (defBody sIsWhole) (defScope sIsWhole) [.non, .non] [] f fd := by
  obtain ⟨fd, h⟩ := T.says.def_ 0 (d := dIsWhole) rfl
  exact ⟨_, fd, T.glo 0 rfl, h⟩
theorem Txt.d_shared_divisor : ∃ f fd, mg "shared_divisor" = some (.ref f) ∧ FunD K "shared_divisor" "shared_divisor" (defArgs sSharedDivisor) (defBody sSharedDivisor) (defScope sSharedDivisor) [] [] f fd := by
  obtain ⟨fd, h⟩ := T.says.def_ 1 (d := dSharedDivisor) rfl
  exact ⟨_, fd, T.glo 1 rfl, h⟩
theorem Txt.d_lowest : ∃ f fd, mg "lowest" = some (.ref f) ∧ FunD K "lowest" "lowest" (defArgs sLowest) (defBody sLowest) (defScope sLowest) [] [] f fd := by
  obtain ⟨fd, h⟩ := T.says.def_ 2 (d := dLowest) rfl
  exact ⟨_, fd, T.glo 2 rfl, h⟩
theorem Txt.d_is_ratio : ∃ f fd, mg "is_ratio" = some (.ref f) ∧ FunD K "is_ratio" "is_ratio" (defArgs sIsRatio) (defBody sIsRatio) (defScope sIsRatio) [] [] f fd := by
  obtain ⟨fd, h⟩ := T.says.def_ 3 (d := dIsRatio) rfl
  exact ⟨_, fd, T.glo 3 rfl, h⟩
theorem Txt.d_plus : ∃ f fd, mg "plus" = some (.ref f) ∧ FunD K "plus" "plus" (defArgs sPlus) (defBody sPlus) (defScope sPlus) [] [] f fd := by
  obtain ⟨fd, h⟩ := T.says.def_ 4 (d := dPlus) rfl
  exact ⟨_, fd, T.glo 4 rfl, h⟩
theorem Txt.d_negative : ∃ f fd, mg "negative" = some (.ref f) ∧ FunD K "negative" "negative" (defArgs sNegative) (defBody sNegative) (defScope sNegative) [] [] f fd := by
  obtain ⟨fd, h⟩ := T.says.def_ 5 (d := dNegative) rfl
  exact ⟨_, fd, T.glo 5 rfl, h⟩
theorem Txt.d_times : ∃ f fd, mg "times" = some (.ref f) ∧ FunD K "times" "times" (defArgs sTimes) (defBody sTimes) (defScope sTimes) [] [] f fd := by
  obtain ⟨fd, h⟩ := T.says.def_ 6 (d := dTimes) rfl
  exact ⟨_, fd, T.glo 6 rfl, h⟩
theorem Txt.d_compare : ∃ f fd, mg "compare" = some (.ref f) ∧ FunD K "compare" "compare" (defArgs sCompare) (defBody sCompare) (defScope sCompare) [] [] f fd := by
  obtain ⟨fd, h⟩ := T.says.def_ 7 (d := dCompare) rfl
  exact ⟨_, fd, T.glo 7 rfl, h⟩
theorem Txt.d_sum_of : ∃ f fd, mg "sum_of" = some (.ref f) ∧ FunD K "sum_of" "sum_of" (defArgs sSumOf) (defBody sSumOf) (defScope sSumOf) [] [] f fd := by
  obtain ⟨fd, h⟩ := T.says.def_ 8 (d := dSumOf) rfl
  exact ⟨_, fd, T.glo 8 rfl, h⟩
theorem Txt.d_power_of : ∃ f fd, mg "power_of" = some (.ref f) ∧ FunD K "power_of" "power_of" (defArgs sPowerOf) (defBody sPowerOf) (defScope sPowerOf) [] [] f fd := by
  obtain ⟨fd, h⟩ := T.says.def_ 9 (d := dPowerOf) rfl
  exact ⟨_, fd, T.glo 9 rfl, h⟩
theorem Txt.d_check_lengths : ∃ f fd, mg "check_lengths" = some (.ref f) ∧ FunD K "check_lengths" "check_lengths" (defArgs sCheckLengths) (defBody sCheckLengths) (defScope sCheckLengths) [] [] f fd := by
  obtain ⟨fd, h⟩ := T.says.def_ 10 (d := dCheckLengths) rfl
  exact ⟨_, fd, T.glo 10 rfl, h⟩
theorem Txt.d_weighed_hum : ∃ f fd, mg "weighed_hum" = some (.ref f) ∧ FunD K "weighed_hum" "weighed_hum" (defArgs sWeighedHum) (defBody sWeighedHum) (defScope sWeighedHum) [] [] f fd := by
  obtain ⟨fd, h⟩ := T.says.def_ 11 (d := dWeighedHum) rfl
  exact ⟨_, fd, T.glo 11 rfl, h⟩
theorem Txt.d_whole_steps : ∃ f fd, mg "whole_steps" = some (.ref f) ∧ FunD K "whole_steps" "whole_steps" (defArgs sWholeSteps) (defBody sWholeSteps) (defScope sWholeSteps) [] [] f fd := by
  obtain ⟨fd, h⟩ := T.says.def_ 12 (d := dWholeSteps) rfl
  exact ⟨_, fd, T.glo 12 rfl, h⟩
theorem Txt.d_led_row : ∃ f fd, mg "led_row" = some (.ref f) ∧ FunD K "led_row" "led_row" (defArgs sLedRow) (defBody sLedRow) (defScope sLedRow) [] [] f fd := by
  obtain ⟨fd, h⟩ := T.says.def_ 13 (d := dLedRow) rfl
  exact ⟨_, fd, T.glo 13 rfl, h⟩
theorem Txt.d_signs_at : ∃ f fd, mg "signs_at" = some (.ref f) ∧ FunD K "signs_at" "signs_at" (defArgs sSignsAt) (defBody sSignsAt) (defScope sSignsAt) [] [] f fd := by
  obtain ⟨fd, h⟩ := T.says.def_ 14 (d := dSignsAt) rfl
  exact ⟨_, fd, T.glo 14 rfl, h⟩
theorem Txt.d_whole_layers : ∃ f fd, mg "whole_layers" = some (.ref f) ∧ FunD K "whole_layers" "whole_layers" (defArgs sWholeLayers) (defBody sWholeLayers) (defScope sWholeLayers) [] [] f fd := by
  obtain ⟨fd, h⟩ := T.says.def_ 15 (d := dWholeLayers) rfl
  exact ⟨_, fd, T.glo 15 rfl, h⟩
theorem Txt.d_ways_of : ∃ f fd, mg "ways_of" = some (.ref f) ∧ FunD K "ways_of" "ways_of" (defArgs sWaysOf) (defBody sWaysOf) (defScope sWaysOf) [] [] f fd := by
  obtain ⟨fd, h⟩ := T.says.def_ 16 (d := dWaysOf) rfl
  exact ⟨_, fd, T.glo 16 rfl, h⟩
theorem Txt.d_pick_word : ∃ f fd, mg "pick_word" = some (.ref f) ∧ FunD K "pick_word" "pick_word" (defArgs sPickWord) (defBody sPickWord) (defScope sPickWord) [] [] f fd := by
  obtain ⟨fd, h⟩ := T.says.def_ 17 (d := dPickWord) rfl
  exact ⟨_, fd, T.glo 17 rfl, h⟩
theorem Txt.d_check_row : ∃ f fd, mg "check_row" = some (.ref f) ∧ FunD K "check_row" "check_row" (defArgs sCheckRow) (defBody sCheckRow) (defScope sCheckRow) [] [] f fd := by
  obtain ⟨fd, h⟩ := T.says.def_ 18 (d := dCheckRow) rfl
  exact ⟨_, fd, T.glo 18 rfl, h⟩
theorem Txt.d_check_signs : ∃ f fd, mg "check_signs" = some (.ref f) ∧ FunD K "check_signs" "check_signs" (defArgs sCheckSigns) (defBody sCheckSigns) (defScope sCheckSigns) [] [] f fd := by
  obtain ⟨fd, h⟩ := T.says.def_ 19 (d := dCheckSigns) rfl
  exact ⟨_, fd, T.glo 19 rfl, h⟩
theorem Txt.d_check_word : ∃ f fd, mg "check_word" = some (.ref f) ∧ FunD K "check_word" "check_word" (defArgs sCheckWord) (defBody sCheckWord) (defScope sCheckWord) [] [] f fd := by
  obtain ⟨fd, h⟩ := T.says.def_ 20 (d := dCheckWord) rfl
  exact ⟨_, fd, T.glo 20 rfl, h⟩
theorem Txt.d_crossings_of : ∃ f fd, mg "crossings_of" = some (.ref f) ∧ FunD K "crossings_of" "crossings_of" (defArgs sCrossingsOf) (defBody sCrossingsOf) (defScope sCrossingsOf) [] [] f fd := by
  obtain ⟨fd, h⟩ := T.says.def_ 21 (d := dCrossingsOf) rfl
  exact ⟨_, fd, T.glo 21 rfl, h⟩
theorem Txt.d_turned_word : ∃ f fd, mg "turned_word" = some (.ref f) ∧ FunD K "turned_word" "turned_word" (defArgs sTurnedWord) (defBody sTurnedWord) (defScope sTurnedWord) [] [] f fd := by
  obtain ⟨fd, h⟩ := T.says.def_ 22 (d := dTurnedWord) rfl
  exact ⟨_, fd, T.glo 22 rfl, h⟩
theorem Txt.d_backward_word : ∃ f fd, mg "backward_word" = some (.ref f) ∧ FunD K "backward_word" "backward_word" (defArgs sBackwardWord) (defBody sBackwardWord) (defScope sBackwardWord) [] [] f fd := by
  obtain ⟨fd, h⟩ := T.says.def_ 23 (d := dBackwardWord) rfl
  exact ⟨_, fd, T.glo 23 rfl, h⟩
theorem Txt.d_number_of_word : ∃ f fd, mg "number_of_word" = some (.ref f) ∧ FunD K "number_of_word" "number_of_word" (defArgs sNumberOfWord) (defBody sNumberOfWord) (defScope sNumberOfWord) [] [] f fd := by
  obtain ⟨fd, h⟩ := T.says.def_ 24 (d := dNumberOfWord) rfl
  exact ⟨_, fd, T.glo 24 rfl, h⟩
theorem Txt.d_weigh_hum : ∃ f fd, mg "weigh_hum" = some (.ref f) ∧ FunD K "weigh_hum" "weigh_hum" (defArgs sWeighHum) (defBody sWeighHum) (defScope sWeighHum) [] [] f fd := by
  obtain ⟨fd, h⟩ := T.says.def_ 25 (d := dWeighHum) rfl
  exact ⟨_, fd, T.glo 25 rfl, h⟩
theorem Txt.d_mark_hum : ∃ f fd, mg "mark_hum" = some (.ref f) ∧ FunD K "mark_hum" "mark_hum" (defArgs sMarkHum) (defBody sMarkHum) (defScope sMarkHum) [] [] f fd := by
  obtain ⟨fd, h⟩ := T.says.def_ 26 (d := dMarkHum) rfl
  exact ⟨_, fd, T.glo 26 rfl, h⟩
theorem Txt.d_are_ratios : ∃ f fd, mg "are_ratios" = some (.ref f) ∧ FunD K "are_ratios" "are_ratios" (defArgs sAreRatios) (defBody sAreRatios) (defScope sAreRatios) [] [] f fd := by
  obtain ⟨fd, h⟩ := T.says.def_ 27 (d := dAreRatios) rfl
  exact ⟨_, fd, T.glo 27 rfl, h⟩
theorem Txt.d_check_span : ∃ f fd, mg "check_span" = some (.ref f) ∧ FunD K "check_span" "check_span" (defArgs sCheckSpan) (defBody sCheckSpan) (defScope sCheckSpan) [] [] f fd := by
  obtain ⟨fd, h⟩ := T.says.def_ 28 (d := dCheckSpan) rfl
  exact ⟨_, fd, T.glo 28 rfl, h⟩
theorem Txt.d_degree_span : ∃ f fd, mg "degree_span" = some (.ref f) ∧ FunD K "degree_span" "degree_span" (defArgs sDegreeSpan) (defBody sDegreeSpan) (defScope sDegreeSpan) [] [] f fd := by
  obtain ⟨fd, h⟩ := T.says.def_ 29 (d := dDegreeSpan) rfl
  exact ⟨_, fd, T.glo 29 rfl, h⟩
theorem Txt.d_heard_by : ∃ f fd, mg "heard_by" = some (.ref f) ∧ FunD K "heard_by" "heard_by" (defArgs sHeardBy) (defBody sHeardBy) (defScope sHeardBy) [] [] f fd := by
  obtain ⟨fd, h⟩ := T.says.def_ 30 (d := dHeardBy) rfl
  exact ⟨_, fd, T.glo 30 rfl, h⟩
theorem Txt.d_check_asked : ∃ f fd, mg "check_asked" = some (.ref f) ∧ FunD K "check_asked" "check_asked" (defArgs sCheckAsked) (defBody sCheckAsked) (defScope sCheckAsked) [] [] f fd := by
  obtain ⟨fd, h⟩ := T.says.def_ 31 (d := dCheckAsked) rfl
  exact ⟨_, fd, T.glo 31 rfl, h⟩
theorem Txt.d_told_hums : ∃ f fd, mg "told_hums" = some (.ref f) ∧ FunD K "told_hums" "told_hums" (defArgs sToldHums) (defBody sToldHums) (defScope sToldHums) [] [] f fd := by
  obtain ⟨fd, h⟩ := T.says.def_ 32 (d := dToldHums) rfl
  exact ⟨_, fd, T.glo 32 rfl, h⟩
theorem Txt.d_count_ways : ∃ f fd, mg "count_ways" = some (.ref f) ∧ FunD K "count_ways" "count_ways" (defArgs sCountWays) (defBody sCountWays) (defScope sCountWays) [] [] f fd := by
  obtain ⟨fd, h⟩ := T.says.def_ 33 (d := dCountWays) rfl
  exact ⟨_, fd, T.glo 33 rfl, h⟩
theorem Txt.d_hushed_words : ∃ f fd, mg "hushed_words" = some (.ref f) ∧ FunD K "hushed_words" "hushed_words" (defArgs sHushedWords) (defBody sHushedWords) (defScope sHushedWords) [] [] f fd := by
  obtain ⟨fd, h⟩ := T.says.def_ 34 (d := dHushedWords) rfl
  exact ⟨_, fd, T.glo 34 rfl, h⟩
theorem Txt.d_count_hushed : ∃ f fd, mg "count_hushed" = some (.ref f) ∧ FunD K "count_hushed" "count_hushed" (defArgs sCountHushed) (defBody sCountHushed) (defScope sCountHushed) [] [] f fd := by
  obtain ⟨fd, h⟩ := T.says.def_ 35 (d := dCountHushed) rfl
  exact ⟨_, fd, T.glo 35 rfl, h⟩
theorem Txt.d_hushed_number : ∃ f fd, mg "hushed_number" = some (.ref f) ∧ FunD K "hushed_number" "hushed_number" (defArgs sHushedNumber) (defBody sHushedNumber) (defScope sHushedNumber) [] [] f fd := by
  obtain ⟨fd, h⟩ := T.says.def_ 36 (d := dHushedNumber) rfl
  exact ⟨_, fd, T.glo 36 rfl, h⟩
theorem Txt.d_hushed_by_number : ∃ f fd, mg "hushed_by_number" = some (.ref f) ∧ FunD K "hushed_by_number" "hushed_by_number" (defArgs sHushedByNumber) (defBody sHushedByNumber) (defScope sHushedByNumber) [] [] f fd := by
  obtain ⟨fd, h⟩ := T.says.def_ 37 (d := dHushedByNumber) rfl
  exact ⟨_, fd, T.glo 37 rfl, h⟩
theorem Txt.d_fewest_ahead : ∃ f fd, mg "fewest_ahead" = some (.ref f) ∧ FunD K "fewest_ahead" "fewest_ahead" (defArgs sFewestAhead) (defBody sFewestAhead) (defScope sFewestAhead) [] [] f fd := by
  obtain ⟨fd, h⟩ := T.says.def_ 38 (d := dFewestAhead) rfl
  exact ⟨_, fd, T.glo 38 rfl, h⟩
theorem Txt.d_least_crossed : ∃ f fd, mg "least_crossed" = some (.ref f) ∧ FunD K "least_crossed" "least_crossed" (defArgs sLeastCrossed) (defBody sLeastCrossed) (defScope sLeastCrossed) [] [] f fd := by
  obtain ⟨fd, h⟩ := T.says.def_ 39 (d := dLeastCrossed) rfl
  exact ⟨_, fd, T.glo 39 rfl, h⟩
theorem Txt.d_order_noise : ∃ f fd, mg "order_noise" = some (.ref f) ∧ FunD K "order_noise" "order_noise" (defArgs sOrderNoise) (defBody sOrderNoise) (defScope sOrderNoise) [] [] f fd := by
  obtain ⟨fd, h⟩ := T.says.def_ 40 (d := dOrderNoise) rfl
  exact ⟨_, fd, T.glo 40 rfl, h⟩
theorem Txt.d_order_of : ∃ f fd, mg "order_of" = some (.ref f) ∧ FunD K "order_of" "order_of" (defArgs sOrderOf) (defBody sOrderOf) (defScope sOrderOf) [] [] f fd := by
  obtain ⟨fd, h⟩ := T.says.def_ 41 (d := dOrderOf) rfl
  exact ⟨_, fd, T.glo 41 rfl, h⟩
theorem Txt.d_length_bar : ∃ f fd, mg "length_bar" = some (.ref f) ∧ FunD K "length_bar" "length_bar" (defArgs sLengthBar) (defBody sLengthBar) (defScope sLengthBar) [] [] f fd := by
  obtain ⟨fd, h⟩ := T.says.def_ 42 (d := dLengthBar) rfl
  exact ⟨_, fd, T.glo 42 rfl, h⟩
theorem Txt.d__law_hand : ∃ f fd, mg "_law_hand" = some (.ref f) ∧ FunD K "_law_hand" "_law_hand" (defArgs sLLawHand) (defBody sLLawHand) (defScope sLLawHand) [] [] f fd := by
  obtain ⟨fd, h⟩ := T.says.def_ 43 (d := dLLawHand) rfl
  exact ⟨_, fd, T.glo 43 rfl, h⟩
theorem Txt.d__law_mixed : ∃ f fd, mg "_law_mixed" = some (.ref f) ∧ FunD K "_law_mixed" "_law_mixed" (defArgs sLLawMixed) (defBody sLLawMixed) (defScope sLLawMixed) [] [] f fd := by
  obtain ⟨fd, h⟩ := T.says.def_ 44 (d := dLLawMixed) rfl
  exact ⟨_, fd, T.glo 44 rfl, h⟩
theorem Txt.d__law_take : ∃ f fd, mg "_law_take" = some (.ref f) ∧ FunD K "_law_take" "_law_take" (defArgs sLLawTake) (defBody sLLawTake) (defScope sLLawTake) [] [] f fd := by
  obtain ⟨fd, h⟩ := T.says.def_ 45 (d := dLLawTake) rfl
  exact ⟨_, fd, T.glo 45 rfl, h⟩
theorem Txt.d__law_gcd : ∃ f fd, mg "_law_gcd" = some (.ref f) ∧ FunD K "_law_gcd" "_law_gcd" (defArgs sLLawGcd) (defBody sLLawGcd) (defScope sLLawGcd) [] [] f fd := by
  obtain ⟨fd, h⟩ := T.says.def_ 46 (d := dLLawGcd) rfl
  exact ⟨_, fd, T.glo 46 rfl, h⟩
theorem Txt.d__law_ratio : ∃ f fd, mg "_law_ratio" = some (.ref f) ∧ FunD K "_law_ratio" "_law_ratio" (defArgs sLLawRatio) (defBody sLLawRatio) (defScope sLLawRatio) [] [] f fd := by
  obtain ⟨fd, h⟩ := T.says.def_ 47 (d := dLLawRatio) rfl
  exact ⟨_, fd, T.glo 47 rfl, h⟩
theorem Txt.d__law_plus : ∃ f fd, mg "_law_plus" = some (.ref f) ∧ FunD K "_law_plus" "_law_plus" (defArgs sLLawPlus) (defBody sLLawPlus) (defScope sLLawPlus) [] [] f fd := by
  obtain ⟨fd, h⟩ := T.says.def_ 48 (d := dLLawPlus) rfl
  exact ⟨_, fd, T.glo 48 rfl, h⟩
theorem Txt.d__law_times : ∃ f fd, mg "_law_times" = some (.ref f) ∧ FunD K "_law_times" "_law_times" (defArgs sLLawTimes) (defBody sLLawTimes) (defScope sLLawTimes) [] [] f fd := by
  obtain ⟨fd, h⟩ := T.says.def_ 49 (d := dLLawTimes) rfl
  exact ⟨_, fd, T.glo 49 rfl, h⟩
theorem Txt.d__law_power : ∃ f fd, mg "_law_power" = some (.ref f) ∧ FunD K "_law_power" "_law_power" (defArgs sLLawPower) (defBody sLLawPower) (defScope sLLawPower) [] [] f fd := by
  obtain ⟨fd, h⟩ := T.says.def_ 50 (d := dLLawPower) rfl
  exact ⟨_, fd, T.glo 50 rfl, h⟩
theorem Txt.d__law_noise : ∃ f fd, mg "_law_noise" = some (.ref f) ∧ FunD K "_law_noise" "_law_noise" (defArgs sLLawNoise) (defBody sLLawNoise) (defScope sLLawNoise) [] [] f fd := by
  obtain ⟨fd, h⟩ := T.says.def_ 51 (d := dLLawNoise) rfl
  exact ⟨_, fd, T.glo 51 rfl, h⟩
theorem Txt.d__law_mark_hum : ∃ f fd, mg "_law_mark_hum" = some (.ref f) ∧ FunD K "_law_mark_hum" "_law_mark_hum" (defArgs sLLawMarkHum) (defBody sLLawMarkHum) (defScope sLLawMarkHum) [] [] f fd := by
  obtain ⟨fd, h⟩ := T.says.def_ 52 (d := dLLawMarkHum) rfl
  exact ⟨_, fd, T.glo 52 rfl, h⟩
theorem Txt.d__law_order : ∃ f fd, mg "_law_order" = some (.ref f) ∧ FunD K "_law_order" "_law_order" (defArgs sLLawOrder) (defBody sLLawOrder) (defScope sLLawOrder) [] [] f fd := by
  obtain ⟨fd, h⟩ := T.says.def_ 53 (d := dLLawOrder) rfl
  exact ⟨_, fd, T.glo 53 rfl, h⟩
theorem Txt.d__law_even : ∃ f fd, mg "_law_even" = some (.ref f) ∧ FunD K "_law_even" "_law_even" (defArgs sLLawEven) (defBody sLLawEven) (defScope sLLawEven) [] [] f fd := by
  obtain ⟨fd, h⟩ := T.says.def_ 54 (d := dLLawEven) rfl
  exact ⟨_, fd, T.glo 54 rfl, h⟩
theorem Txt.d__law_poles : ∃ f fd, mg "_law_poles" = some (.ref f) ∧ FunD K "_law_poles" "_law_poles" (defArgs sLLawPoles) (defBody sLLawPoles) (defScope sLLawPoles) [] [] f fd := by
  obtain ⟨fd, h⟩ := T.says.def_ 55 (d := dLLawPoles) rfl
  exact ⟨_, fd, T.glo 55 rfl, h⟩
theorem Txt.d__law_turned : ∃ f fd, mg "_law_turned" = some (.ref f) ∧ FunD K "_law_turned" "_law_turned" (defArgs sLLawTurned) (defBody sLLawTurned) (defScope sLLawTurned) [] [] f fd := by
  obtain ⟨fd, h⟩ := T.says.def_ 56 (d := dLLawTurned) rfl
  exact ⟨_, fd, T.glo 56 rfl, h⟩
theorem Txt.d__law_back : ∃ f fd, mg "_law_back" = some (.ref f) ∧ FunD K "_law_back" "_law_back" (defArgs sLLawBack) (defBody sLLawBack) (defScope sLLawBack) [] [] f fd := by
  obtain ⟨fd, h⟩ := T.says.def_ 57 (d := dLLawBack) rfl
  exact ⟨_, fd, T.glo 57 rfl, h⟩
theorem Txt.d__law_signs : ∃ f fd, mg "_law_signs" = some (.ref f) ∧ FunD K "_law_signs" "_law_signs" (defArgs sLLawSigns) (defBody sLLawSigns) (defScope sLLawSigns) [] [] f fd := by
  obtain ⟨fd, h⟩ := T.says.def_ 58 (d := dLLawSigns) rfl
  exact ⟨_, fd, T.glo 58 rfl, h⟩
theorem Txt.d__law_line : ∃ f fd, mg "_law_line" = some (.ref f) ∧ FunD K "_law_line" "_law_line" (defArgs sLLawLine) (defBody sLLawLine) (defScope sLLawLine) [] [] f fd := by
  obtain ⟨fd, h⟩ := T.says.def_ 59 (d := dLLawLine) rfl
  exact ⟨_, fd, T.glo 59 rfl, h⟩
theorem Txt.d__law_is_word : ∃ f fd, mg "_law_is_word" = some (.ref f) ∧ FunD K "_law_is_word" "_law_is_word" (defArgs sLLawIsWord) (defBody sLLawIsWord) (defScope sLLawIsWord) [] [] f fd := by
  obtain ⟨fd, h⟩ := T.says.def_ 60 (d := dLLawIsWord) rfl
  exact ⟨_, fd, T.glo 60 rfl, h⟩
theorem Txt.d__law_is_number : ∃ f fd, mg "_law_is_number" = some (.ref f) ∧ FunD K "_law_is_number" "_law_is_number" (defArgs sLLawIsNumber) (defBody sLLawIsNumber) (defScope sLLawIsNumber) [] [] f fd := by
  obtain ⟨fd, h⟩ := T.says.def_ 61 (d := dLLawIsNumber) rfl
  exact ⟨_, fd, T.glo 61 rfl, h⟩
theorem Txt.d__law_built_line : ∃ f fd, mg "_law_built_line" = some (.ref f) ∧ FunD K "_law_built_line" "_law_built_line" (defArgs sLLawBuiltLine) (defBody sLLawBuiltLine) (defScope sLLawBuiltLine) [] [] f fd := by
  obtain ⟨fd, h⟩ := T.says.def_ 62 (d := dLLawBuiltLine) rfl
  exact ⟨_, fd, T.glo 62 rfl, h⟩
theorem Txt.d__law_even_grown : ∃ f fd, mg "_law_even_grown" = some (.ref f) ∧ FunD K "_law_even_grown" "_law_even_grown" (defArgs sLLawEvenGrown) (defBody sLLawEvenGrown) (defScope sLLawEvenGrown) [] [] f fd := by
  obtain ⟨fd, h⟩ := T.says.def_ 63 (d := dLLawEvenGrown) rfl
  exact ⟨_, fd, T.glo 63 rfl, h⟩
theorem Txt.d__law_are_words : ∃ f fd, mg "_law_are_words" = some (.ref f) ∧ FunD K "_law_are_words" "_law_are_words" (defArgs sLLawAreWords) (defBody sLLawAreWords) (defScope sLLawAreWords) [] [] f fd := by
  obtain ⟨fd, h⟩ := T.says.def_ 64 (d := dLLawAreWords) rfl
  exact ⟨_, fd, T.glo 64 rfl, h⟩
theorem Txt.d__law_same : ∃ f fd, mg "_law_same" = some (.ref f) ∧ FunD K "_law_same" "_law_same" (defArgs sLLawSame) (defBody sLLawSame) (defScope sLLawSame) [] [] f fd := by
  obtain ⟨fd, h⟩ := T.says.def_ 65 (d := dLLawSame) rfl
  exact ⟨_, fd, T.glo 65 rfl, h⟩
theorem Txt.d__law_numbered : ∃ f fd, mg "_law_numbered" = some (.ref f) ∧ FunD K "_law_numbered" "_law_numbered" (defArgs sLLawNumbered) (defBody sLLawNumbered) (defScope sLLawNumbered) [] [] f fd := by
  obtain ⟨fd, h⟩ := T.says.def_ 66 (d := dLLawNumbered) rfl
  exact ⟨_, fd, T.glo 66 rfl, h⟩
theorem Txt.d_law : ∃ f fd, mg "law" = some (.ref f) ∧ FunD K "law" "law" (defArgs sLaw) (defBody sLaw) (defScope sLaw) [] [] f fd := by
  obtain ⟨fd, h⟩ := T.says.def_ 67 (d := dLaw) rfl
  exact ⟨_, fd, T.glo 67 rfl, h⟩
theorem Txt.d_Line___init__ : ∃ fd, FunD K "__init__" "Line.__init__" (defArgs sLineInit) (defBody sLineInit) (defScope sLineInit) [] [] (He.ma K (He.ga K "Line") "__init__") fd := by
  obtain ⟨fd, h⟩ := T.says.def_ 68 (d := dLineInit) rfl
  exact ⟨fd, h⟩
theorem Txt.d_Line___len__ : ∃ fd, FunD K "__len__" "Line.__len__" (defArgs sLineLen) (defBody sLineLen) (defScope sLineLen) [] [] (He.ma K (He.ga K "Line") "__len__") fd := by
  obtain ⟨fd, h⟩ := T.says.def_ 69 (d := dLineLen) rfl
  exact ⟨fd, h⟩
theorem Txt.d_Line_backward : ∃ fd, FunD K "backward" "Line.backward" (defArgs sLineBackward) (defBody sLineBackward) (defScope sLineBackward) [] [] (He.ma K (He.ga K "Line") "backward") fd := by
  obtain ⟨fd, h⟩ := T.says.def_ 70 (d := dLineBackward) rfl
  exact ⟨fd, h⟩
theorem Txt.d_Line_grown : ∃ fd, FunD K "grown" "Line.grown" (defArgs sLineGrown) (defBody sLineGrown) (defScope sLineGrown) [] [] (He.ma K (He.ga K "Line") "grown") fd := by
  obtain ⟨fd, h⟩ := T.says.def_ 71 (d := dLineGrown) rfl
  exact ⟨fd, h⟩
theorem Txt.d_Line_shifted : ∃ fd, FunD K "shifted" "Line.shifted" (defArgs sLineShifted) (defBody sLineShifted) (defScope sLineShifted) [] [] (He.ma K (He.ga K "Line") "shifted") fd := by
  obtain ⟨fd, h⟩ := T.says.def_ 72 (d := dLineShifted) rfl
  exact ⟨fd, h⟩
theorem Txt.d_Span___init__ : ∃ fd, FunD K "__init__" "Span.__init__" (defArgs sSpanInit) (defBody sSpanInit) (defScope sSpanInit) [] [] (He.ma K (He.ga K "Span") "__init__") fd := by
  obtain ⟨fd, h⟩ := T.says.def_ 73 (d := dSpanInit) rfl
  exact ⟨fd, h⟩
theorem Txt.propSec : PropOf K (He.ga K "Span") "sections" (secP K) (secG K) := by
  obtain ⟨h1, _⟩ := Bool.and_eq_true_iff.mp T.sx
  obtain ⟨h2, h3⟩ := Bool.and_eq_true_iff.mp h1
  obtain ⟨h4, h5⟩ := Bool.and_eq_true_iff.mp h3
  obtain ⟨h6, h7⟩ := Bool.and_eq_true_iff.mp h5
  refine ⟨He.eqO_ok h2, He.eqO_ok h4, of_decide_eq_true h6, ?_⟩
  unfold secG
  revert h7
  generalize PySem.W.recIn K (secP K) "property" = r
  intro h7
  match r, h7 with
  | some (.ref g :: rest), _ => exact ⟨rest, rfl⟩
theorem Txt.d_sections : ∃ fd, FunD K "sections" "Span.sections" (defArgs sSpanSections) (defBody sSpanSections) (defScope sSpanSections) [] [] (secG K) fd := by
  obtain ⟨_, h1⟩ := Bool.and_eq_true_iff.mp T.sx
  obtain ⟨kp, c2⟩ := Bool.and_eq_true_iff.mp h1
  have e := T.sv
  unfold fnWA at e
  cases q : K.lookup (secG K) with
  | none =>
    rw [q] at c2
    cases c2
  | some o =>
    obtain ⟨oc, od, dt, osl⟩ := o
    rw [q] at c2 e
    cases dt with
    | func fd =>
      obtain ⟨n1, n2, n3, n4, n5, n6, n7, n8, n9, n10, n11, n12, n13, n14, n15⟩ := fd
      have e2 : (some (n1, n2, n3, n4, n5, n6, n7, n15) : He.FnW) = secV := e
      unfold secV at e2
      simp only [Option.some.injEq, Prod.mk.injEq] at e2
      obtain ⟨h1, h2, h3, h4, h5, h6, h7, h8⟩ := e2
      subst h1 h2 h3 h4 h5 h6 h7 h8
      have c3 : (PySem.W.codeIn K n13 "Span.sections" && He.dflB K n8 []) = true := c2
      obtain ⟨k1, k2⟩ := Bool.and_eq_true_iff.mp c3
      exact ⟨_, ⟨oc, od, n8, n9, n10, n11, n12, n13, n14, osl, rfl, q, k1, He.dflB_ok k2, .inl rfl⟩, kp⟩
    | _ => cases c2
end
end K79
set_option Elab.async false
set_option linter.all false
set_option maxRecDepth 100000
set_option maxHeartbeats 0
namespace K79
open PySem L2
def loose0 : List PySem.Str := ["_wall", "WireError", "BadLine", "BadSize", "BadStep", "BadWord", "BadNumber", "TooMany", "OtherLine", "BadLength", "BadPower", "BadSpan", "BadDegree", "NotHushed", "ZERO", "ONE", "is_whole", "shared_divisor", "lowest", "is_ratio", "plus", "negative", "times", "compare", "sum_of"]
def loose1 : List PySem.Str := ["power_of", "MOST_SECTIONS", "check_lengths", "Line", "MOST_ROWS", "weighed_hum", "whole_steps", "led_row", "signs_at", "whole_layers", "ways_of", "pick_word", "check_row", "check_signs", "check_word", "crossings_of", "turned_word", "backward_word", "number_of_word", "MOST_POWER", "weigh_hum", "mark_hum", "are_ratios", "MOST_HUMS", "Span"]
def loose2 : List PySem.Str := ["Heard", "check_span", "degree_span", "heard_by", "check_asked", "told_hums", "count_ways", "hushed_words", "count_hushed", "hushed_number", "hushed_by_number", "fewest_ahead", "least_crossed", "MOST_EVEN", "order_noise", "order_of", "length_bar", "_law_hand", "_law_mixed", "_law_take", "_law_gcd", "_law_ratio", "_law_plus", "_law_times", "_law_power"]
def loose3 : List PySem.Str := ["_law_noise", "_law_mark_hum", "_law_order", "_law_even", "_law_poles", "_law_turned", "_law_back", "_law_signs", "_law_line", "_law_is_word", "_law_is_number", "_law_built_line", "_law_even_grown", "_law_are_words", "_law_same", "_law_numbered"]
def loose : List PySem.Str := loose0 ++ loose1 ++ loose2 ++ loose3
abbrev RW0 : PySem.W.OpenRow := PySem.W.OpenLaw.row PySem.Challenge.rw_hushedwires_k79_whole_words_by_their_ord
def exA (K : PySem.W.Frag) : Bool := exB K && secB K
abbrev hk : PySem.W.Hook := hookS ["Line", "Span"] fa fn exA (fun K => fnWA K (secG K)) secV
def ob (s : PySem.W.SharedT) : AlS := obsS ["Line", "Span"] fa fn exA (fun K => fnWA K (secG K)) (HandSHeadRun.getT s)
theorem ob_eq (s : PySem.W.SharedT) : ob s = hk.obs s.abs := obsS_eq (HandSHeadRun.getT_eq s)
theorem run (w : World) : HandSHeadRun.RunEq RW0 (PySem.W.view RW0.prog [102]) hk ob 8000 loose w := by
  intro os
  kernel_rfl
end K79
set_option Elab.async false
set_option linter.all false
set_option maxRecDepth 100000
/-! KI: isinstance by types. -/
namespace K79
open PySem L2

/-- a thing's class, as isinstance asks it -/
def IsTy (K : PySem.W.Frag) (T : Ty) (n : String) : Prop := ∀ v S H, Same S H → T.p v S → TyX K H v (.type n)
theorem isTy_int {K : PySem.W.Frag} {i : Int} : IsTy K (tI i) "int" := fun v S H _ h => by
  have h : v = .int i := h
  subst h
  exact .base (.int i)
theorem isTy_tup {K : PySem.W.Frag} {ts : List Ty} : IsTy K (tTup K ts) "tuple" := fun v S H e ⟨a, vs, h1, h2, _⟩ => by
  subst h1
  rcases h2 with (h | ⟨o, h⟩) | ⟨o, its, n, h, hc, _⟩
  · exact .base (.tup (e _ _ h))
  · exact .fTuple (e _ _ h)
  · exact .kTuple h hc
theorem isTy_lst {K : PySem.W.Frag} {ts : List Ty} : IsTy K (tLst K ts) "list" := fun v S H e ⟨a, vs, h1, h2, _⟩ => by
  subst h1
  rcases h2 with (h | ⟨o, h⟩) | ⟨o, its, n, h, hc, _⟩
  · exact .base (.lst (e _ _ h))
  · exact .base (.frz (e _ _ h))
  · exact .kList h hc
section
variable {X : Cx} {O : Owns} {Γ : Env} {a : Expr} {T : Ty} {n N1 N2 : String} {b : Bool} {x y : Str} {p q q1 q2 pt pos : Pos} {kt : Nat}
theorem et_ty (hT : X.mg x = none) (hv : bootBuiltins x = some (.type n)) (hgT : Gl X x := by rfl) (hn : x ≠ "__name__" := by decide) (hd : (x == ("__debug__" : Str)) = false := by decide) : ETy X O Γ (.Name x q) (tV (.ty n)) := fun σ F S H Q g o i1 k =>
  of_pe (pe_bltn (v := .ty n) hgT hT hv rfl hn hd) (k _ S H (.refl i1) rfl)
/-- isinstance(a, T) -/
theorem et_isi (hm : X.mg "isinstance" = none) (hT : X.mg x = none) (hv : bootBuiltins x = some (.type N1)) (hk : kitB n N1 = some b) (ht : IsTy X.K T n) (ha : ETy X O Γ a T)
    (hg : Gl X "isinstance" := by rfl) (hgT : Gl X x := by rfl) (hn : x ≠ "__name__" := by decide) (hd : (x == ("__debug__" : Str)) = false := by decide)
    (h1 : starEach (a :: .Name x q :: []) X.env = (false, eval a X.env) :: starEach (.Name x q :: []) X.env := by rfl) (h2 : starEach (.Name x q :: []) X.env = (false, eval (.Name x q) X.env) :: starEach [] X.env := by rfl) (hpl : (backTo pos (starEach [.Name x q] X.env)).any (·.1) = false := by rfl) :
    ETy X O Γ (.Call (.Name "isinstance" p) [a, .Name x q] [] pos) (tBl b) :=
  et_callB call_isi hm (by decide +kernel) (at_cons ha (at_cons (et_ty hT hv hgT hn hd) at_nil h2) h1) (fun vs S H Q h e k => by
    obtain ⟨u, c, rfl, hu, hc⟩ := all2_2 h
    have hc : c = .ty N1 := hc
    subst hc
    exact ⟨_, _, _, _, b, rfl, .ty N1, ht u S H e hu, kit_ty hk, k _ S H (.refl e) rfl⟩) hg (hpl := hpl) (he := h1)
/-- isinstance(a, (T, U)) -/
theorem et_isi2 {b1 b2 : Bool} (hm : X.mg "isinstance" = none) (hT : X.mg x = none) (hv : bootBuiltins x = some (.type N1)) (hU : X.mg y = none) (hw : bootBuiltins y = some (.type N2)) (hk : kitB n N1 = some b1) (hl : kitB n N2 = some b2) (ht : IsTy X.K T n) (ha : ETy X O Γ a T)
    (hg : Gl X "isinstance" := by rfl) (hgT : Gl X x := by rfl) (hgU : Gl X y := by rfl) (hn : x ≠ "__name__" := by decide) (hd : (x == ("__debug__" : Str)) = false := by decide) (hn2 : y ≠ "__name__" := by decide) (hd2 : (y == ("__debug__" : Str)) = false := by decide)
    (h1 : starEach (a :: .Tuple [.Name x q1, .Name y q2] kt pt :: []) X.env = (false, eval a X.env) :: starEach (.Tuple [.Name x q1, .Name y q2] kt pt :: []) X.env := by rfl) (h2 : starEach (.Tuple [.Name x q1, .Name y q2] kt pt :: []) X.env = (false, eval (.Tuple [.Name x q1, .Name y q2] kt pt) X.env) :: starEach [] X.env := by rfl) (hpl : (backTo pos (starEach [.Tuple [.Name x q1, .Name y q2] kt pt] X.env)).any (·.1) = false := by rfl)
    (h3 : starEach (.Name x q1 :: .Name y q2 :: []) X.env = (false, eval (.Name x q1) X.env) :: starEach (.Name y q2 :: []) X.env := by rfl) (h4 : starEach (.Name y q2 :: []) X.env = (false, eval (.Name y q2) X.env) :: starEach [] X.env := by rfl) :
    ETy X O Γ (.Call (.Name "isinstance" p) [a, .Tuple [.Name x q1, .Name y q2] kt pt] [] pos) (tBl (b1 || b2)) :=
  et_callB call_isiT hm (by decide +kernel) (at_cons ha (at_cons (et_tupH (at_cons (et_ty hT hv hgT hn hd) (at_cons (et_ty hU hw hgU hn2 hd2) at_nil h4) h3)) at_nil h2) h1) (fun vs S H Q h e k => by
    obtain ⟨u, c, rfl, hu, tp, cs, rfl, hc, h5⟩ := all2_2 h
    obtain ⟨c1, c2, rfl, e1, e2⟩ := all2_2 h5
    have e1 : c1 = .ty N1 := e1
    have e2 : c2 = .ty N2 := e2
    subst e1 e2
    refine ⟨u, tp, _, .type n, [.type N1, .type N2], b1 || b2, rfl, e _ _ hc, .cons (.ty N1) (.cons (.ty N2) .nil), ht u S H e hu, ?_, k _ S H (.refl e) rfl⟩
    refine kitAny_cons (kit_ty hk) (fun z => ?_) (fun z => by rw [z]; rfl)
    subst z
    exact kitAny_cons (kit_ty hl) (fun z => by subst z; exact kitAny_nil) (fun z => by rw [z]; rfl)) hg (hpl := hpl) (he := h1)
end
end K79
set_option Elab.async false
set_option linter.all false
set_option maxRecDepth 100000
/-! D1: the ratios. -/
namespace K79
open PySem L2
open PyProof.Rows (envOfC)

/-- a ratio -/
def tQ (K : PySem.W.Frag) (q : Rat) : Ty := tTup K [tI q.num, tI q.den]
theorem tQ_of {K : PySem.W.Frag} {q : Rat} {a b : Int} (e1 : q.num = a) (e2 : (q.den : Int) = b) : tTup K [tI a, tI b] = tQ K q := by
  subst e1 e2
  rfl
section
variable {P : Program} {w : World} {K : PySem.W.Frag} {mg : Str → Option Value} {base : Heap}

/-! ### is_whole -/
def oI : Option Int → V
  | none => .non
  | some i => .int i
def loB (x : Int) : Option Int → Bool
  | none => true
  | some l => decide (l ≤ x)
def hiB (x : Int) : Option Int → Bool
  | none => true
  | some h => decide (x ≤ h)
def wholeB (x : Int) (lo hi : Option Int) : Bool := loB x lo && hiB x hi
abbrev spWhole : Sp := spT (α := Int × Option Int × Option Int) (fun x => [tI x.1, tV (oI x.2.1), tV (oI x.2.2)]) (fun _ => True) (fun x => tBl (wholeB x.1 x.2.1 x.2.2))
theorem sc_whole : FnScope ["thing", "low", "high"] ["thing", "low", "high"] (defScope sIsWhole) := ⟨rfl, rfl, rfl, by decide +kernel, rfl, by decide +kernel, by decide +kernel⟩
set_option maxHeartbeats 1000000 in
theorem fnok_whole {f : Addr} {fd : FuncData} (T : Txt K mg) (F : FunD K "is_whole" "is_whole" (defArgs sIsWhole) (defBody sIsWhole) (defScope sIsWhole) [.non, .non] [] f fd) : FnOk P w K mg base CX0 1 f fd ["thing", "low", "high"] spWhole := by
  refine fn_ok (st := sIsWhole) F sc_whole (fun _ => rfl) fun f cdv Ar outer s H E x _ hr S D hR _ => ?_
  obtain ⟨x, lo, hi⟩ := x
  show BTy _ _ _ _ [some (tI x), some (tV (oI lo)), some (tV (oI hi))] _ _
  -- if isinstance(thing, bool) or not isinstance(thing, int): return False
  refine bt_no (tt_w (wt_or2 (tt_val (et_isi T.f_isinstance T.f_bool (by decide +kernel) (b := false) (n := "int") (N1 := "bool") (by decide +kernel) isTy_int (et_var 0))) (fun _ => wt_or1 (tt_not (tt_val (et_isi T.f_isinstance T.f_int (by decide +kernel) (b := true) (n := "int") (N1 := "int") (by decide +kernel) isTy_int (et_var 0))))))) rfl ?_
  -- if low is not None and thing < low: return False; return high is None or thing <= high
  have last : loB x lo = true → BTy (Ct P w K mg base ["thing", "low", "high"] "is_whole" sIsWhole f cdv Ar outer s H E) S H [] [some (tI x), some (tV (oI lo)), some (tV (oI hi))] [(defBody sIsWhole).getD 2 (.Pass ⟨0, 0, 0, 0⟩)] D := fun h1 => by
    have e : hiB x hi = wholeB x lo hi := by
      unfold wholeB
      rw [h1, Bool.true_and]
    refine bt_ret (et_eq ?_ (congrArg tBl e)) hR
    cases hi with
    | none => exact et_eq (et_or (l := true) (et_isN (et_var 2)) (fun z => by cases z)) rfl
    | some h => exact et_eq (et_or (l := decide (x ≤ h)) (et_isN (et_var 2)) (fun _ => et_one (et_le' (et_var 0) (et_var 2)))) rfl
  cases lo with
  | none => exact bt_no (tt_w (wt_and2 (l := false) (tt_notN (et_var 1)) (fun z => by cases z))) rfl (last rfl)
  | some l =>
    refine bt_lv (tt_w (wt_and2 (tt_notN (et_var 1)) (fun _ => wt_and1 (tt_lt (et_var 0) (et_var 1))))) (fun h => ?_) (fun h => ?_)
    · refine bt_ret (et_eq et_bl (congrArg tBl ?_)) hR
      have h2 : x < l := by
        rw [Bool.and_eq_true] at h
        exact of_decide_eq_true h.2
      show false = (decide (l ≤ x) && _)
      rw [decide_eq_false (by omega)]
      rfl
    · have h2 : ¬ x < l := fun z => by
        have z2 : decide (x < l) = true := decide_eq_true z
        rw [z2] at h
        exact nomatch h
      exact last (decide_eq_true (by omega))
theorem fn_whole1 (T : Txt K mg) : Fn P w K mg base "is_whole" 1 ["thing", "low", "high"] [.non, .non] spWhole := by
  obtain ⟨f, fd, h1, F⟩ := T.d_is_whole
  obtain ⟨ds, h2, h3⟩ := F.binds1 (ps := ["thing", "low", "high"]) 1 0 (by decide) rfl fun _ _ _ _ _ _ _ us its h h' => match us, its, h, h' with | [_], [_, _], _, _ => ⟨_, rfl, rfl⟩
  exact ⟨f, fd, ds, h1, F.kp, h2, h3, fnok_whole T F⟩
theorem fn_whole2 (T : Txt K mg) : Fn P w K mg base "is_whole" 1 ["thing", "low", "high"] [.non] spWhole := by
  obtain ⟨f, fd, h1, F⟩ := T.d_is_whole
  obtain ⟨ds, h2, h3⟩ := F.binds1 (ps := ["thing", "low", "high"]) 2 1 (by decide) rfl fun _ _ _ _ _ _ _ us its h h' => match us, its, h, h' with | [_, _], [_, _], _, _ => ⟨_, rfl, rfl⟩
  exact ⟨f, fd, ds, h1, F.kp, h2, h3, fnok_whole T F⟩
theorem fn_whole3 (T : Txt K mg) : Fn P w K mg base "is_whole" 1 ["thing", "low", "high"] [] spWhole := by
  obtain ⟨f, fd, h1, F⟩ := T.d_is_whole
  obtain ⟨ds, h2, h3⟩ := F.binds1 (ps := ["thing", "low", "high"]) 3 2 (by decide) rfl fun _ _ _ _ _ _ _ us its h h' => match us, its, h, h' with | [_, _, _], [_, _], _, _ => ⟨_, rfl, rfl⟩
  exact ⟨f, fd, ds, h1, F.kp, h2, h3, fnok_whole T F⟩

/-! ### shared_divisor -/
abbrev spGcd : Sp := spT (α := Int × Int) (fun x => [tI x.1, tI x.2]) (fun _ => True) (fun x => tI (Nat.gcd x.1.natAbs x.2.natAbs : Nat))
theorem sc_gcd : FnScope ["one", "other"] ["one", "other"] (defScope sSharedDivisor) := ⟨rfl, rfl, rfl, by decide +kernel, rfl, by decide +kernel, by decide +kernel⟩
theorem abs_eq (a : Int) : (if a < 0 then -a else a) = (a.natAbs : Int) := by
  split <;> omega
theorem fn_gcd (T : Txt K mg) : Fn P w K mg base "shared_divisor" 1 ["one", "other"] [] spGcd := by
  refine fn_of' (st := sSharedDivisor) T.d_shared_divisor (fun _ _ _ _ _ _ us h => match us, h with | [_, _], _ => rfl) sc_gcd (fun _ => rfl) fun f cdv Ar outer s H E x _ hr S D hR _ => ?_
  obtain ⟨a, b⟩ := x
  have nd := sc_gcd.nd
  show BTy _ _ _ _ [some (tI a), some (tI b)] _ _
  -- one = abs(one); other = abs(other)
  refine bt_set 0 nd (et_eq (et_abs T.f_abs (et_var 0)) (congrArg tI (abs_eq a))) ?_
  refine bt_set 1 nd (et_eq (et_abs T.f_abs (et_var 1)) (congrArg tI (abs_eq b))) ?_
  show BTy _ _ _ _ [some (tI (a.natAbs : Nat)), some (tI (b.natAbs : Nat))] _ _
  -- while other != 0: one, other = other, one % other
  refine bt_while (α := Nat × Nat) (fun x => [some (tI x.1), some (tI x.2)]) (fun _ => []) (fun x => decide (x.2 ≠ 0)) (fun x => (x.2, x.1 % x.2)) (fun x => Nat.gcd x.1 x.2 = Nat.gcd a.natAbs b.natAbs) (fun x => x.2) (a.natAbs, b.natAbs) PassesOwn.never rfl (.refl _) rfl
    (fun x _ => tt_eq (tt_ne (et_var 1) et_int) ?_) (fun x h k => ⟨(gcd_step x.1 x.2).symm.trans h, Nat.mod_lt _ (Nat.pos_of_ne_zero (of_decide_eq_true k))⟩) (fun x _ k => ?_) (fun x h k => ?_)
  · by_cases h : x.2 = 0
    · simp [h]
    · simp [h]
  · have k : x.2 ≠ 0 := of_decide_eq_true k
    refine bt_par 0 1 nd (by decide) (at_cons (et_var 1) (at_one (et_mod (j := (x.2 : Nat)) (by omega) (et_var 0) (et_var 1)))) ?_
    exact bt_turn (fun _ _ h => h) (.refl _)
  · have k : x.2 = 0 := Decidable.not_not.mp (of_decide_eq_false k)
    refine bt_ret (et_eq (et_var 0) (congrArg tI ?_)) hR
    show (x.1 : Int) = ((Nat.gcd a.natAbs b.natAbs : Nat) : Int)
    rw [← h, k, Nat.gcd_zero_right]
/-! ### lowest -/
abbrev spLowest (K : PySem.W.Frag) : Sp := spT (α := Int × Int) (fun x => [tI x.1, tI x.2]) (fun x => 0 < x.2 ∧ x.2.natAbs < 2 ^ 9000) (fun x => tQ K (Rat.divInt x.1 x.2))
theorem sc_lowest : FnScope ["top", "bottom", "part"] ["top", "bottom"] (defScope sLowest) := ⟨rfl, rfl, rfl, by decide +kernel, rfl, by decide +kernel, by decide +kernel⟩
theorem fn_lowest (T : Txt K mg) : Fn P w K mg base "lowest" 2 ["top", "bottom"] [] (spLowest K) := by
  refine fn_of' (st := sLowest) T.d_lowest (fun _ _ _ _ _ _ us h => match us, h with | [_, _], _ => rfl) sc_lowest (fun _ => rfl) fun f cdv Ar outer s H E x pre hr S D hR _ => ?_
  obtain ⟨t, b⟩ := x
  obtain ⟨hb, hs⟩ : 0 < b ∧ b.natAbs < 2 ^ 9000 := pre
  have nd := sc_lowest.nd
  show BTy _ _ _ _ [some (tI t), some (tI b), none] _ _
  refine bt_set 2 nd (et_call (x := (t, b)) (fn_gcd T) hr trivial (at_cons (et_var 0) (at_one (et_var 1)))) ?_
  refine bt_no (tt_lt (et_var 1) et_int) (decide_eq_false (by omega)) ?_
  have hg : 0 < Nat.gcd t.natAbs b.natAbs := Nat.gcd_pos_of_pos_right _ (by omega)
  have hd : ∀ i, CDivW i (Nat.gcd t.natAbs b.natAbs : Nat) := fun i => wide_div (b := 9000) (by omega) (by
    have := Nat.gcd_le_right t.natAbs (show 0 < b.natAbs by omega)
    simp only [Int.natAbs_natCast]
    omega) (by decide) (by decide)
  obtain ⟨e1, e2⟩ := divInt_pos (t := t) hb
  exact bt_ret (et_eq (et_tup (at_cons (et_div (hd t) (et_var 0) (et_var 2)) (at_one (et_div (hd b) (et_var 1) (et_var 2))))) (tQ_of e1 e2)) hR
end
end K79
set_option Elab.async false
set_option linter.all false
set_option maxRecDepth 100000
/-! KX: rules that the layer lacks: t[::-1] of a tuple. -/
namespace K79
open PySem L2
open PyProof.Rows
/-- the slice's bounds, all of it from the end -/
theorem back_applied {prog : Program} {w : World} {A : Around} {E : Value → Shared → Prop} {s : Shared} {sl : Addr} {vs : Value} {n : Nat} {Q : Int × Int × Nat → Shared → Prop} (hs : s.heap.IsSliceOf sl .none .none vs) (pk : IsPart vs (some (-1)))
    (h : Q ((n : Int) - 1, -1, n) s) : wpAny (model prog w) A (Builtin.Slice.sliceApplied (.ref sl) (pure (n : Int))) Q E s := by
  obtain ⟨os, ho, hc, hd⟩ := id hs
  unfold Builtin.Slice.sliceApplied Builtin.Slice.sliceFields
  refine wpAny_bind (wpAny_bind (wpAny_field ho hd (x := .none) rfl ?_))
  refine wpAny_bind (wpAny_field ho hd (x := .none) rfl (wpAny_bind (wpAny_field ho hd (x := vs) rfl (wpAny_pure ?_))))
  refine wpAny_bind (HT.slicePart_ pk ?_)
  show wpAny _ _ (if ((-1 : Int) == 0) = true then _ else _) _ _ s
  rw [if_neg (by decide)]
  refine wpAny_bind (slicePart_none (wpAny_bind (slicePart_none (wpAny_bind (wpAny_pure ?_)))))
  have e : Builtin.Slice.slicePlaces ((n : Int) - 1) (-1) (-1) = n := by
    unfold Builtin.Slice.slicePlaces
    rw [if_neg (by decide)]
    have z : -(-1 : Int) = 1 := rfl
    rw [z, Int.ediv_one]
    split <;> omega
  refine wpAny_pure ?_
  show Q ((n : Int) - 1, -1, Builtin.Slice.slicePlaces ((n : Int) - 1) (-1) (-1)) s
  rw [e]
  exact h
theorem back_pick (xs : Array Value) : ((List.range xs.size).filterMap fun (m : Nat) => xs[(((xs.size : Nat) : Int) - 1 + (m : Int) * (-1)).toNat]?).toArray = xs.toList.reverse.toArray := by
  congr 1
  have e : (fun (m : Nat) => xs[(((xs.size : Nat) : Int) - 1 + (m : Int) * (-1)).toNat]?) = (fun m => xs[m]?) ∘ fun m => xs.size - 1 - m := by
    funext m
    have z : (((xs.size : Nat) : Int) - 1 + (m : Int) * (-1)).toNat = xs.size - 1 - m := by omega
    show xs[(((xs.size : Nat) : Int) - 1 + (m : Int) * (-1)).toNat]? = xs[xs.size - 1 - m]?
    rw [z]
  rw [e, ← List.filterMap_map, PySem.W.krv_range, List.filterMap_reverse, PySem.W.krv_all]
theorem getItem_back {prog : Program} {w : World} {A : Around} {E : Value → Shared → Prop} {s : Shared} {t sl : Addr} {items : Array Value} {vs : Value} {Q : Value → Shared → Prop} (ht : IsTup s.heap t items) (hs : s.heap.IsSliceOf sl .none .none vs) (pk : IsPart vs (some (-1)))
    (h : Q (.ref s.heap.objs.size) { s with heap := s.heap.push { cls := .type "tuple", data := .seq items.toList.reverse.toArray } }) (hsz : items.size ≤ sizeLine) : wpAny (model prog w) A (getItem (.ref t) (.ref sl)) Q E s := by
  have hok : sizeOk (.seq items.toList.reverse.toArray) := by
    show items.toList.reverse.toArray.size ≤ sizeLine
    simpa using hsz
  obtain ⟨os, ho, hc, hd⟩ := id hs
  have hT : s.TypeIs (.ref sl) "slice" := ⟨os, ho, hc⟩
  unfold getItem
  try with_reducible refine wpAny_holding ?_
  first | refine wpAny_bind (wpAny_pure ?_) | skip
  refine wpAny_bind (wpAny_sequenceKey ht.typeIs (by decide) ?_)
  refine wpAny_bind (wpAny_callSpecial?_slot (name := Str.ofString "__getitem__") ht.typeIs slot_tuple_getitem ?_)
  refine wpAny_call_entry slot_tuple_getitem ht.typeIs entry_tuple_getitem ?_ (args_tuple_getitem _ _)
  show wpAny _ _ (Builtin.Tuple.tupleItemsOf (.ref t) >>= _) _ _ s
  refine wpAny_bind (tupleItemsOf_ ht (wpAny_bind (wpAny_typeOf hT ?_)))
  rw [if_pos (by decide)]
  refine wpAny_bind (back_applied hs pk ?_)
  have hno : ¬ ((((items.size : Nat) : Int) - 1 == 0 && (-1 : Int) == 1 && items.size == items.size) = true) := by
    rw [Bool.and_eq_true, Bool.and_eq_true]
    exact fun q => absurd q.1.2 (by decide)
  show wpAny _ _ (if (((items.size : Nat) : Int) - 1 == 0 && (-1 : Int) == 1 && items.size == items.size) = true then _ else _) _ _ s
  rw [if_neg hno, back_pick]
  first
    | exact wpAny_bind (m := Builtin.Tuple.tupleExact _) (wpAny_newObj_type (wpAny_pure ⟨_, rfl, wpAny_pure h⟩) hok)
    | exact wpAny_bind (m := Builtin.Tuple.tupleExact _) (wpAny_newObj_type (wpAny_bind (wpAny_pure (wpAny_pure ⟨_, rfl, wpAny_pure h⟩))) hok)
    | exact wpAny_bind (wpAny_bind (m := Builtin.Tuple.tupleExact _) (wpAny_newObj_type (wpAny_pure (wpAny_pure ⟨_, rfl, wpAny_pure h⟩)) hok))
    | exact wpAny_bind (wpAny_bind (m := Builtin.Tuple.tupleExact _) (wpAny_newObj_type (wpAny_pure ⟨_, rfl, wpAny_pure h⟩) hok))
def tRevT (K : PySem.W.Frag) (te : TE) : TE := fun σ H Q => te σ H fun x H1 => ∃ a xs, x = .ref a ∧ SqT K H1 a xs ∧ ∀ p, H1 p = none → Q (.ref p) (upd H1 p (.tup xs.reverse))
theorem pe_revT {X : Cx} {e : Expr} {te : TE} {k : Nat} {p1 p2 p3 pos : Pos} (he : PE X e te) : PE X (.Subscript e (.Slice none none (some (.UnaryOp .USub (.Constant (.int 1) k p1) p2)) p3) pos) (tRevT X.K te) := by
  refine ⟨fun pins s σ H Q I h => Subscript_ (thn (he.run pins s σ H _ I h) fun v s1 ⟨x, H1, I1, r1, a, xs, ex, hx, q⟩ => ?_)⟩
  subst ex
  cases r1
  have st : PO X (some (.UnaryOp .USub (.Constant (.int 1) k p1) p2)) (tPart (tUn (rU fun i => .int (-i)) (tC (.int 1)))) := po_some (pe_un un_neg pe_int)
  refine wpAny_Slice (thn (po_none.run pins s1 σ H1 (fun o H2 => o = none ∧ H2 = H1) I1 ⟨rfl, rfl⟩) fun vl s2 ⟨l, H2, I2, pl, el, e2⟩ => ?_)
  subst el e2
  refine thn (po_none.run pins s2 σ H2 (fun o H3 => o = none ∧ H3 = H2) I2 ⟨rfl, rfl⟩) fun vu s3 ⟨u, H3, I3, pu, eu, e3⟩ => ?_
  subst eu e3
  refine thn (st.run pins s3 σ H3 (fun o H4 => o = some (-1) ∧ H4 = H3) I3 ⟨1, rfl, -1, rfl, rfl, rfl⟩) fun vs s4 ⟨o, H4, I4, ps, eo, e4⟩ => ?_
  subst eo e4
  cases pl
  cases pu
  have I5 : Inv X pins σ H4 { s4 with heap := s4.heap.push { cls := .type "slice", data := .fields #[.none, .none, vs] } } := I4.kept (t' := s4.toks) fun b ob q => Heap.get?_push_of_some _ q
  obtain ⟨its, r, ht, hz⟩ := I5.tuple hx
  have hlen := r.length
  show wpAny (model X.prog X.w) X.A (subscriptTail e (.Slice none none (some (.UnaryOp .USub (.Constant (.int 1) k p1) p2)) p3) (.ref a) (.ref s4.heap.objs.size)) _ X.xe _
  refine tail_any (ops := [.ref a, .ref s4.heap.objs.size]) ht.typeIs slot_tuple_getitem.lookup ?_ (by with_unfolding_all rfl)
  refine getItem_back ht (Heap.IsSliceOf.new _ .none .none vs) ps ?_ (by rw [List.size_toArray]; omega)
  refine ⟨.ref _, _, I5.laid (t' := s4.toks) (o := .tup xs.reverse) (fun b ob q => Heap.get?_push_of_some _ q) (Nat.le_refl _) ?_, rfl, q _ (I5.hok.fresh (Nat.le_refl _))⟩
  exact ⟨by rw [List.length_reverse]; exact hz, _, r.reverse, IsTup.new _ _⟩
section
variable {X : Cx} {O : Owns} {Γ : PySem.Env → Nat} {e : Expr} {ts : List Ty} {k : Nat} {p1 p2 p3 pos : Pos}
theorem et_revT {Γ : K79.Env} (he : ETy X O Γ e (tTup X.K ts)) : ETy X O Γ (.Subscript e (.Slice none none (some (.UnaryOp .USub (.Constant (.int 1) k p1) p2)) p3) pos) (tTup X.K ts.reverse) := fun σ F S H Q g o i q =>
  of_pe (pe_revT pe_w) (he σ F S H _ g o i fun v S1 H1 g1 ⟨a, vs, h1, h2, h3⟩ => ⟨a, vs, h1, same_t g1.i h2, fun p hp => q (.ref p) (upd S1 p (.tup vs.reverse)) _ (g1.trans (.new g1.i hp)) ⟨p, _, rfl, SqT.of upd_same, (h3.m (same_upd (g1.i.free hp))).reverse⟩⟩)
theorem et_revL {Γ : K79.Env} (he : ETy X O Γ e (tLst X.K ts)) : ETy X O Γ (.Subscript e (.Slice none none (some (.UnaryOp .USub (.Constant (.int 1) k p1) p2)) p3) pos) (tLst X.K ts.reverse) := fun σ F S H Q g o i q =>
  of_pe (pe_revL pe_w) (he σ F S H _ g o i fun v S1 H1 g1 ⟨a, vs, h1, h2, h3⟩ => ⟨a, vs, h1, same_l g1.i h2, fun p hp => q (.ref p) (upd S1 p (.lst vs.reverse)) _ (g1.trans (.new g1.i hp)) ⟨p, _, rfl, SqL.of upd_same, (h3.m (same_upd (g1.i.free hp))).reverse⟩⟩)
/-- t[lo:] of a tuple -/
theorem et_fromT {Γ : K79.Env} {lo : Expr} {i : Nat} (he : ETy X O Γ e (tTup X.K ts)) (hl : ETy X O Γ lo (tI i)) : ETy X O Γ (.Subscript e (.Slice (some lo) none none p2) pos) (tTup X.K (ts.drop i)) := fun σ F S H Q g o i1 q =>
  of_pe (pe_slice sl_tupA pe_w (po_some pe_w) po_none) (he σ F S H _ g o i1 fun v S1 H1 g1 ⟨a, vs, h1, h2, h3⟩ => hl σ F S1 H1 _ (g.m g1.s) (o.grow g1) g1.i fun u S2 H2 g2 hu => by
    have hu : u = .int i := hu
    subst h1 hu
    have h2' := same_t (g2.s.trans g2.i) h2
    have gg := g1.trans g2
    have e1 : cutV vs (some (i : Int)) none = vs.drop i := by
      unfold cutV
      rw [HT.sIx_nat, HT.sIx_none]
      rcases Nat.le_total i vs.length with z | z
      · rw [Nat.min_eq_left z, List.take_of_length_le (by simp)]
      · rw [Nat.min_eq_right z, List.drop_eq_nil_of_le z, List.drop_eq_nil_of_le (Nat.le_refl _), List.take_nil]
    refine ⟨(i : Int), rfl, a, vs, rfl, h2', fun hw => ?_, fun hw p hp => ?_⟩
    · have z : vs.drop i = vs := by
        rw [HT.sIx_nat] at hw
        rcases Nat.le_total i vs.length with z | z
        · rw [Nat.min_eq_left z] at hw
          rw [hw.1]
          rfl
        · rw [Nat.min_eq_right z] at hw
          rw [List.drop_eq_nil_of_le z, List.length_eq_zero_iff.mp hw.1]
      have z3 := (h3.m g2.s).drop i
      rw [z] at z3
      exact q _ S2 H2 gg ⟨a, vs, rfl, same_t g2.s h2, z3⟩
    · rw [e1]
      exact q (.ref p) (upd S2 p (.tup (vs.drop i))) _ (gg.trans (.new g2.i hp)) ⟨p, _, rfl, SqT.of upd_same, ((h3.m g2.s).m (same_upd (g2.i.free hp))).drop i⟩)
end
end K79
set_option Elab.async false
set_option linter.all false
set_option maxRecDepth 100000
/-! D2: the ratios, further. -/
namespace K79
open PySem L2
open PyProof.Rows (envOfC)
section
variable {P : Program} {w : World} {K : PySem.W.Frag} {mg : Str → Option Value} {base : Heap}
def SzOk (a b : Rat) : Prop := ∃ m n, Sz m a ∧ Sz n b ∧ m + n ≤ 9000
theorem pow_le9 {n : Nat} (h : n ≤ 9000) : 2 ^ n ≤ 2 ^ 9000 := Nat.pow_le_pow_right (by decide) h
theorem SzOk.den {a b : Rat} (h : SzOk a b) : 0 < (a.den : Int) * (b.den : Int) ∧ ((a.den : Int) * (b.den : Int)).natAbs < 2 ^ 9000 := by
  obtain ⟨m, n, h1, h2, h3⟩ := h
  exact ⟨dens_pos a b, Nat.lt_of_lt_of_le (dens h1 h2) (pow_le9 h3)⟩
theorem SzOk.mulNN {a b : Rat} (h : SzOk a b) : CMulW a.num b.num := by
  obtain ⟨m, n, h1, h2, h3⟩ := h
  exact wide_mul h1.1 h2.1 h1.pos h2.pos (by omega)
theorem SzOk.mulND {a b : Rat} (h : SzOk a b) : CMulW a.num b.den := by
  obtain ⟨m, n, h1, h2, h3⟩ := h
  exact wide_mul h1.1 (by simpa using h2.2) h1.pos h2.pos (by omega)
theorem SzOk.mulDD {a b : Rat} (h : SzOk a b) : CMulW a.den b.den := by
  obtain ⟨m, n, h1, h2, h3⟩ := h
  exact wide_mul (by simpa using h1.2) (by simpa using h2.2) h1.pos h2.pos (by omega)
theorem SzOk.comm {a b : Rat} (h : SzOk a b) : SzOk b a := by
  obtain ⟨m, n, h1, h2, h3⟩ := h
  exact ⟨n, m, h2, h1, by omega⟩
/-- the parts of a ratio -/
theorem et_q0 {X : Cx} {O : Owns} {Γ : Env} {a : Expr} {q : Rat} {j p pos : _} (ha : ETy X O Γ a (tQ X.K q)) : ETy X O Γ (.Subscript a (.Constant (.int 0) j p) pos) (tI q.num) := et_ixT (k := 0) ha et_int rfl rfl
theorem et_q1 {X : Cx} {O : Owns} {Γ : Env} {a : Expr} {q : Rat} {j p pos : _} (ha : ETy X O Γ a (tQ X.K q)) : ETy X O Γ (.Subscript a (.Constant (.int 1) j p) pos) (tI q.den) := et_ixT (k := 1) ha et_int rfl rfl
theorem isTy_q {q : Rat} : IsTy K (tQ K q) "tuple" := isTy_tup
theorem et_lenQ {X : Cx} {O : Owns} {Γ : Env} {e : Expr} {q : Rat} {p pos : Pos} (hm : X.mg "len" = none) (ha : ETy X O Γ e (tQ X.K q)) (hg : Gl X "len" := by rfl) (hs : starEach (e :: []) X.env = (false, eval e X.env) :: starEach [] X.env := by rfl) : ETy X O Γ (.Call (.Name "len" p) [e] [] pos) (tI 2) := et_lenT (ts := [tI q.num, tI q.den]) hm ha hg hs

/-! ### is_ratio -/
abbrev spIsRatio (K : PySem.W.Frag) : Sp := spT (α := Rat) (fun q => [tQ K q]) (fun _ => True) (fun _ => tBl true)
theorem sc_isRatio : FnScope ["thing"] ["thing"] (defScope sIsRatio) := ⟨rfl, rfl, rfl, by decide +kernel, rfl, by decide +kernel, by decide +kernel⟩
theorem fn_isRatio (T : Txt K mg) : Fn P w K mg base "is_ratio" 2 ["thing"] [] (spIsRatio K) := by
  refine fn_of' (st := sIsRatio) T.d_is_ratio (fun _ _ _ _ _ _ us h => match us, h with | [_], _ => rfl) sc_isRatio (fun _ => rfl) fun f cdv Ar outer s H E q _ hr S D hR _ => ?_
  show BTy _ _ _ _ [some (tQ K q)] _ _
  have hd := q.den_pos
  -- if not isinstance(thing, tuple) or len(thing) != 2: return False
  refine bt_no (tt_w (wt_or2 (tt_not (tt_val (et_isi T.f_isinstance T.f_tuple (by decide +kernel) (b := true) (n := "tuple") (N1 := "tuple") (by decide +kernel) isTy_q (et_var 0)))) (fun _ => wt_or1 (tt_ne (et_lenQ (q := q) T.f_len (et_var 0)) et_int)))) rfl ?_
  -- if not is_whole(thing[0]) or not is_whole(thing[1], 1): return False
  refine bt_no (tt_w (wt_or2 (tt_not (tt_val (et_callD (x := (q.num, none, none)) (fn_whole1 T) (hr.mono (by decide)) trivial (at_one (et_q0 (q := q) (et_var 0)))))) (fun _ => wt_or1 (tt_not (tt_val (et_callD (x := ((q.den : Int), some 1, none)) (fn_whole2 T) (hr.mono (by decide)) trivial (at_cons (et_q1 (q := q) (et_var 0)) (at_one et_int)))))))) ?_ ?_
  · have h : wholeB (q.den : Int) (some 1) none = true := by
      unfold wholeB loB hiB
      rw [Bool.and_true]
      exact decide_eq_true (by omega)
    show (!wholeB q.num none none || !wholeB (q.den : Int) (some 1) none) = false
    rw [h]
    rfl
  -- return shared_divisor(thing[0], thing[1]) == 1
  · refine bt_ret (et_eq (et_eqI (et_call (x := (q.num, (q.den : Int))) (fn_gcd T) (hr.mono (by decide)) trivial (at_cons (et_q0 (q := q) (et_var 0)) (at_one (et_q1 (q := q) (et_var 0))))) et_int) ?_) hR
    have h : Nat.gcd q.num.natAbs (q.den : Int).natAbs = 1 := q.reduced
    show tBl (decide (((Nat.gcd q.num.natAbs (q.den : Int).natAbs : Nat) : Int) = 1)) = tBl true
    rw [h]
    rfl
/-! ### plus, times, negative, compare -/
abbrev spPlus (K : PySem.W.Frag) : Sp := spT (α := Rat × Rat) (fun x => [tQ K x.1, tQ K x.2]) (fun x => SzOk x.1 x.2) (fun x => tQ K (x.1 + x.2))
theorem sc_plus : FnScope ["one", "other"] ["one", "other"] (defScope sPlus) := ⟨rfl, rfl, rfl, by decide +kernel, rfl, by decide +kernel, by decide +kernel⟩
theorem fn_plus (T : Txt K mg) : Fn P w K mg base "plus" 3 ["one", "other"] [] (spPlus K) := by
  refine fn_of' (st := sPlus) T.d_plus (fun _ _ _ _ _ _ us h => match us, h with | [_, _], _ => rfl) sc_plus (fun _ => rfl) fun f cdv Ar outer s H E x pre hr S D hR _ => ?_
  obtain ⟨a, b⟩ := x
  have pre : SzOk a b := pre
  show BTy _ _ _ _ [some (tQ K a), some (tQ K b)] _ _
  refine bt_ret (et_eq (et_call (x := (a.num * b.den + b.num * a.den, a.den * b.den)) (fn_lowest T) hr pre.den (at_cons (et_add (et_mulW pre.mulND (et_q0 (q := a) (et_var 0)) (et_q1 (q := b) (et_var 1))) (et_mulW pre.comm.mulND (et_q0 (q := b) (et_var 1)) (et_q1 (q := a) (et_var 0)))) (at_one (et_mulW pre.mulDD (et_q1 (q := a) (et_var 0)) (et_q1 (q := b) (et_var 1)))))) ?_) hR
  show tQ K (Rat.divInt _ _) = tQ K (a + b)
  rw [add_divInt]
abbrev spTimes (K : PySem.W.Frag) : Sp := spT (α := Rat × Rat) (fun x => [tQ K x.1, tQ K x.2]) (fun x => SzOk x.1 x.2) (fun x => tQ K (x.1 * x.2))
theorem sc_times : FnScope ["one", "other"] ["one", "other"] (defScope sTimes) := ⟨rfl, rfl, rfl, by decide +kernel, rfl, by decide +kernel, by decide +kernel⟩
theorem fn_times (T : Txt K mg) : Fn P w K mg base "times" 3 ["one", "other"] [] (spTimes K) := by
  refine fn_of' (st := sTimes) T.d_times (fun _ _ _ _ _ _ us h => match us, h with | [_, _], _ => rfl) sc_times (fun _ => rfl) fun f cdv Ar outer s H E x pre hr S D hR _ => ?_
  obtain ⟨a, b⟩ := x
  have pre : SzOk a b := pre
  show BTy _ _ _ _ [some (tQ K a), some (tQ K b)] _ _
  refine bt_ret (et_eq (et_call (x := (a.num * b.num, a.den * b.den)) (fn_lowest T) hr pre.den (at_cons (et_mulW pre.mulNN (et_q0 (q := a) (et_var 0)) (et_q0 (q := b) (et_var 1))) (at_one (et_mulW pre.mulDD (et_q1 (q := a) (et_var 0)) (et_q1 (q := b) (et_var 1)))))) ?_) hR
  show tQ K (Rat.divInt _ _) = tQ K (a * b)
  rw [mul_divInt]
abbrev spNegative (K : PySem.W.Frag) : Sp := spT (α := Rat) (fun q => [tQ K q]) (fun _ => True) (fun q => tQ K (-q))
theorem sc_negative : FnScope ["one"] ["one"] (defScope sNegative) := ⟨rfl, rfl, rfl, by decide +kernel, rfl, by decide +kernel, by decide +kernel⟩
theorem fn_negative (T : Txt K mg) : Fn P w K mg base "negative" 1 ["one"] [] (spNegative K) := by
  refine fn_of' (st := sNegative) T.d_negative (fun _ _ _ _ _ _ us h => match us, h with | [_], _ => rfl) sc_negative (fun _ => rfl) fun f cdv Ar outer s H E q pre hr S D hR _ => ?_
  show BTy _ _ _ _ [some (tQ K q)] _ _
  exact bt_ret (et_eq (et_tup (at_cons (et_neg (et_q0 (q := q) (et_var 0))) (at_one (et_q1 (q := q) (et_var 0))))) (tQ_of (Rat.neg_num q) (by rw [Rat.neg_den]))) hR
abbrev spCompare (K : PySem.W.Frag) : Sp := spT (α := Rat × Rat) (fun x => [tQ K x.1, tQ K x.2]) (fun x => SzOk x.1 x.2) (fun x => tI (cmpQ x.1 x.2))
theorem sc_compare : FnScope ["one", "other", "gap"] ["one", "other"] (defScope sCompare) := ⟨rfl, rfl, rfl, by decide +kernel, rfl, by decide +kernel, by decide +kernel⟩
theorem fn_compare (T : Txt K mg) : Fn P w K mg base "compare" 1 ["one", "other"] [] (spCompare K) := by
  refine fn_of' (st := sCompare) T.d_compare (fun _ _ _ _ _ _ us h => match us, h with | [_, _], _ => rfl) sc_compare (fun _ => rfl) fun f cdv Ar outer s H E x pre hr S D hR _ => ?_
  obtain ⟨a, b⟩ := x
  have pre : SzOk a b := pre
  have nd := sc_compare.nd
  show BTy _ _ _ _ [some (tQ K a), some (tQ K b), none] _ _
  refine bt_set 2 nd (et_sub (et_mulW pre.mulND (et_q0 (q := a) (et_var 0)) (et_q1 (q := b) (et_var 1))) (et_mulW pre.comm.mulND (et_q0 (q := b) (et_var 1)) (et_q1 (q := a) (et_var 0)))) ?_
  have hR : RetOk S H (tI (cmpQ a b)) D.rt := hR
  rw [← cmp_of_gap a b] at hR
  generalize a.num * b.den - b.num * a.den = g at hR ⊢
  refine bt_lv (tt_eq' (et_var 2) et_int) (fun h => ?_) (fun h => ?_)
  · rw [if_pos (of_decide_eq_true h)] at hR
    exact bt_ret et_int hR
  · rw [if_neg (of_decide_eq_false h)] at hR
    refine bt_ret (et_if (tt_gt (et_var 2) et_int) (fun h2 => ?_) (fun h2 => ?_)) hR
    · rw [if_pos (of_decide_eq_true h2)]
      exact et_int
    · rw [if_neg (of_decide_eq_false h2)]
      exact et_eq (et_neg et_int) rfl
end
end K79
set_option Elab.async false
set_option linter.all false
set_option maxRecDepth 100000
/-! D3: sums and powers of ratios; the law's own ratios. -/
namespace K79
open PySem L2
open PyProof.Rows (envOfC)
theorem ba {a b : Bool} (h : (a && b) = true) : a = true ∧ b = true := Bool.and_eq_true_iff.mp h
section
variable {P : Program} {w : World} {K : PySem.W.Frag} {mg : Str → Option Value} {base : Heap}
theorem Txt.zero (T : Txt K mg) (S : Hp) : (tQ K 0).p (.ref (He.ga K "ZERO")) S := ⟨_, _, rfl, He.tupB_ok (ba T.ex).1 S, .cons rfl (.cons rfl .nil)⟩
theorem Txt.one (T : Txt K mg) (S : Hp) : (tQ K 1).p (.ref (He.ga K "ONE")) S := ⟨_, _, rfl, He.tupB_ok (ba T.ex).2 S, .cons rfl (.cons rfl .nil)⟩
theorem et_zero {X : Cx} {O : Owns} {Γ : Env} {pos : Pos} (T : Txt X.K X.mg) (hg : Gl X "ZERO" := by rfl) : ETy X O Γ (.Name "ZERO" pos) (tQ X.K 0) := et_glob (v := .ref (He.ga X.K "ZERO")) T.g_ZERO rfl T.zero hg
theorem et_oneQ {X : Cx} {O : Owns} {Γ : Env} {pos : Pos} (T : Txt X.K X.mg) (hg : Gl X "ONE" := by rfl) : ETy X O Γ (.Name "ONE" pos) (tQ X.K 1) := et_glob (v := .ref (He.ga X.K "ONE")) T.g_ONE rfl T.one hg
theorem et_intG {X : Cx} {O : Owns} {Γ : Env} {x : Str} {n : Int} {pos : Pos} (h : ∃ t, X.mg x = some (.int n t)) (hg : Gl X x := by rfl) (hd : (x == ("__debug__" : Str)) = false := by decide) : ETy X O Γ (.Name x pos) (tI n) := by
  obtain ⟨t, h⟩ := h
  exact et_glob (v := .int n) h ⟨t, rfl⟩ (fun _ => rfl) hg hd

/-! ### sum_of -/
def SumOk (l : List Rat) : Prop := ∃ c, (∀ q ∈ l, Sz c q) ∧ l.length * (c + 1) + c + 1 ≤ 9000
theorem SumOk.at {l : List Rat} (h : SumOk l) {n : Nat} {q : Rat} (e : l[n]? = some q) : SzOk (sumQ (l.take n)) q := by
  obtain ⟨c, h1, h2⟩ := h
  have hn := (List.getElem?_eq_some_iff.mp e).1
  refine ⟨_, _, Sz.sum h1 n, h1 q (List.mem_of_getElem? e), ?_⟩
  have : n * (c + 1) ≤ l.length * (c + 1) := Nat.mul_le_mul_right _ (by omega)
  omega
theorem sumQ_take {l : List Rat} {n : Nat} {q : Rat} (e : l[n]? = some q) : sumQ (l.take (n + 1)) = sumQ (l.take n) + q := by
  rw [List.take_add_one, e, Option.toList_some, sumQ_snoc]
abbrev spSumOf (K : PySem.W.Frag) : Sp := spT (α := List Rat) (fun l => [tLst K (l.map (tQ K))]) SumOk (fun l => tQ K (sumQ l))
theorem sc_sumOf : FnScope ["row", "total", "one"] ["row"] (defScope sSumOf) := ⟨rfl, rfl, rfl, by decide +kernel, rfl, by decide +kernel, by decide +kernel⟩
theorem at_map {α β : Type} {f : α → β} {l : List α} {n : Nat} {y : β} (h : (l.map f)[n]? = some y) : ∃ x, l[n]? = some x ∧ y = f x := by
  rw [List.getElem?_map] at h
  cases e : l[n]? with
  | none => rw [e] at h; cases h
  | some x => rw [e] at h; cases h; exact ⟨x, rfl, rfl⟩
theorem fn_sumOf (T : Txt K mg) : Fn P w K mg base "sum_of" 4 ["row"] [] (spSumOf K) := by
  refine fn_of' (st := sSumOf) T.d_sum_of (fun _ _ _ _ _ _ us h => match us, h with | [_], _ => rfl) sc_sumOf (fun _ => rfl) fun f cdv Ar outer s H E l pre hr S D hR _ => ?_
  have nd := sc_sumOf.nd
  show BTy _ _ _ _ [some (tLst K (l.map (tQ K))), none, none] _ _
  refine bt_set 1 nd (et_zero T) ?_
  refine bt_forL 2 (fun n => [some (tLst K (l.map (tQ K))), some (tQ K (sumQ (l.take n))), none]) (fun _ => []) nd PassesOwn.never (et_var 0) (el_eq (el_eq (el_no el_nil))) rfl (fun S1 H1 g n U hU => ?_) ?_
  · obtain ⟨q, e, rfl⟩ := at_map hU
    refine bt_set 1 nd (et_call (x := (sumQ (l.take n), q)) (fn_plus T) hr (pre.at e) (at_cons (et_var 1) (at_one (et_var 2)))) ?_
    refine bt_turn (fun _ _ h => h) ?_
    show EnvLe _ [_, some (tQ K (sumQ (l.take (n + 1)))), none]
    rw [sumQ_take e]
    exact el_eq (el_eq (el_no el_nil))
  · rw [List.length_map, List.take_length]
    exact bt_ret (et_var 1) hR
/-! ### power_of -/
abbrev spPowerOf (K : PySem.W.Frag) : Sp := spT (α := Rat × Nat) (fun x => [tQ K x.1, tI x.2]) (fun x => x.2 ≤ 99 ∧ ∃ m, Sz m x.1 ∧ (x.2 + 1) * m + 1 ≤ 9000) (fun x => tQ K (x.1 ^ x.2))
theorem sc_powerOf : FnScope ["one", "exponent", "result", "turn"] ["one", "exponent"] (defScope sPowerOf) := ⟨rfl, rfl, rfl, by decide +kernel, rfl, by decide +kernel, by decide +kernel⟩
theorem pow_ok {q : Rat} {m e n : Nat} (h : Sz m q) (hm : (e + 1) * m + 1 ≤ 9000) (hn : n < e) : SzOk (q ^ n) q := by
  refine ⟨_, _, h.pow n, h, ?_⟩
  have : n * m ≤ e * m := Nat.mul_le_mul_right _ (by omega)
  rw [Nat.add_mul] at hm
  omega
theorem fn_powerOf (T : Txt K mg) : Fn P w K mg base "power_of" 4 ["one", "exponent"] [] (spPowerOf K) := by
  refine fn_of' (st := sPowerOf) T.d_power_of (fun _ _ _ _ _ _ us h => match us, h with | [_, _], _ => rfl) sc_powerOf (fun _ => rfl) fun f cdv Ar outer s H E x pre hr S D hR _ => ?_
  obtain ⟨q, e⟩ := x
  obtain ⟨he, m, hq, hm⟩ : e ≤ 99 ∧ ∃ m, Sz m q ∧ (e + 1) * m + 1 ≤ 9000 := pre
  have nd := sc_powerOf.nd
  show BTy _ _ _ _ [some (tQ K q), some (tI e), none, none] _ _
  refine bt_set 2 nd (et_oneQ T) ?_
  refine bt_forR 3 e (fun n => [some (tQ K q), some (tI e), some (tQ K (q ^ n)), none]) (fun _ => []) nd PassesOwn.never T.f_range (et_var 1) (by omega) (el_eq (el_eq (el_le (fun v S h => by rw [Rat.pow_zero]; exact h) (el_no el_nil)))) rfl (fun S1 H1 g n hn => ?_) ?_
  · refine bt_set 2 nd (et_call (x := (q ^ n, q)) (fn_times T) hr (pow_ok hq hm hn) (at_cons (et_var 2) (at_one (et_var 0)))) ?_
    refine bt_turn (fun _ _ h => h) ?_
    show EnvLe _ [_, _, some (tQ K (q ^ (n + 1))), none]
    rw [Rat.pow_succ]
    exact el_eq (el_eq (el_eq (el_no el_nil)))
  · exact bt_ret (et_var 2) hR

/-! ### the law's own -/
theorem sc_lgcd : FnScope ["_law_one", "_law_other"] ["_law_one", "_law_other"] (defScope sLLawGcd) := ⟨rfl, rfl, rfl, by decide +kernel, rfl, by decide +kernel, by decide +kernel⟩
theorem fn_lgcd (T : Txt K mg) : Fn P w K mg base "_law_gcd" 1 ["_law_one", "_law_other"] [] spGcd := by
  refine fn_of' (st := sLLawGcd) T.d__law_gcd (fun _ _ _ _ _ _ us h => match us, h with | [_, _], _ => rfl) sc_lgcd (fun _ => rfl) fun f cdv Ar outer s H E x _ hr S D hR _ => ?_
  obtain ⟨a, b⟩ := x
  have nd := sc_lgcd.nd
  show BTy _ _ _ _ [some (tI a), some (tI b)] _ _
  refine bt_par 0 1 nd (by decide) (at_cons (et_eq (et_abs T.f_abs (et_var 0)) (congrArg tI (abs_eq a))) (at_one (et_eq (et_abs T.f_abs (et_var 1)) (congrArg tI (abs_eq b))))) ?_
  show BTy _ _ _ _ [some (tI (a.natAbs : Nat)), some (tI (b.natAbs : Nat))] _ _
  refine bt_while (α := Nat × Nat) (fun x => [some (tI x.1), some (tI x.2)]) (fun _ => []) (fun x => decide (x.2 ≠ 0)) (fun x => (x.2, x.1 % x.2)) (fun x => Nat.gcd x.1 x.2 = Nat.gcd a.natAbs b.natAbs) (fun x => x.2) (a.natAbs, b.natAbs) PassesOwn.never rfl (.refl _) rfl
    (fun x _ => tt_eq (tt_int (et_var 1)) ?_) (fun x h k => ⟨(gcd_step x.1 x.2).symm.trans h, Nat.mod_lt _ (Nat.pos_of_ne_zero (of_decide_eq_true k))⟩) (fun x _ k => ?_) (fun x h k => ?_)
  · by_cases h : x.2 = 0
    · simp [h]
    · simp [h]
  · have k : x.2 ≠ 0 := of_decide_eq_true k
    refine bt_par 0 1 nd (by decide) (at_cons (et_var 1) (at_one (et_mod (j := (x.2 : Nat)) (by omega) (et_intI T.f_int (et_var 0)) (et_var 1)))) ?_
    exact bt_turn (fun _ _ h => h) (.refl _)
  · have k : x.2 = 0 := Decidable.not_not.mp (of_decide_eq_false k)
    refine bt_ret (et_eq (et_var 0) (congrArg tI ?_)) hR
    show (x.1 : Int) = ((Nat.gcd a.natAbs b.natAbs : Nat) : Int)
    rw [← h, k, Nat.gcd_zero_right]
theorem sc_lratio : FnScope ["_law_top", "_law_bottom", "_law_part"] ["_law_top", "_law_bottom"] (defScope sLLawRatio) := ⟨rfl, rfl, rfl, by decide +kernel, rfl, by decide +kernel, by decide +kernel⟩
theorem fn_lratio (T : Txt K mg) : Fn P w K mg base "_law_ratio" 2 ["_law_top", "_law_bottom"] [] (spLowest K) := by
  refine fn_of' (st := sLLawRatio) T.d__law_ratio (fun _ _ _ _ _ _ us h => match us, h with | [_, _], _ => rfl) sc_lratio (fun _ => rfl) fun f cdv Ar outer s H E x pre hr S D hR _ => ?_
  obtain ⟨t, b⟩ := x
  obtain ⟨hb, hs⟩ : 0 < b ∧ b.natAbs < 2 ^ 9000 := pre
  have nd := sc_lratio.nd
  show BTy _ _ _ _ [some (tI t), some (tI b), none] _ _
  refine bt_set 2 nd (et_call (x := (t, b)) (fn_lgcd T) hr trivial (at_cons (et_var 0) (at_one (et_var 1)))) ?_
  refine bt_no (tt_lt (et_var 1) et_int) (decide_eq_false (by omega)) ?_
  have hg : 0 < Nat.gcd t.natAbs b.natAbs := Nat.gcd_pos_of_pos_right _ (by omega)
  have hd : ∀ i, CDivW i (Nat.gcd t.natAbs b.natAbs : Nat) := fun i => wide_div (b := 9000) (by omega) (by
    have := Nat.gcd_le_right t.natAbs (show 0 < b.natAbs by omega)
    simp only [Int.natAbs_natCast]
    omega) (by decide) (by decide)
  obtain ⟨e1, e2⟩ := divInt_pos (t := t) hb
  exact bt_ret (et_eq (et_tup (at_cons (et_div (hd t) (et_var 0) (et_var 2)) (at_one (et_div (hd b) (et_var 1) (et_var 2))))) (tQ_of e1 e2)) hR
theorem sc_lplus : FnScope ["_law_one", "_law_other"] ["_law_one", "_law_other"] (defScope sLLawPlus) := ⟨rfl, rfl, rfl, by decide +kernel, rfl, by decide +kernel, by decide +kernel⟩
theorem fn_lplus (T : Txt K mg) : Fn P w K mg base "_law_plus" 3 ["_law_one", "_law_other"] [] (spPlus K) := by
  refine fn_of' (st := sLLawPlus) T.d__law_plus (fun _ _ _ _ _ _ us h => match us, h with | [_, _], _ => rfl) sc_lplus (fun _ => rfl) fun f cdv Ar outer s H E x pre hr S D hR _ => ?_
  obtain ⟨a, b⟩ := x
  have pre : SzOk a b := pre
  show BTy _ _ _ _ [some (tQ K a), some (tQ K b)] _ _
  refine bt_ret (et_eq (et_call (x := (a.num * b.den + b.num * a.den, a.den * b.den)) (fn_lratio T) hr pre.den (at_cons (et_add (et_mulW pre.mulND (et_q0 (q := a) (et_var 0)) (et_q1 (q := b) (et_var 1))) (et_mulW pre.comm.mulND (et_q0 (q := b) (et_var 1)) (et_q1 (q := a) (et_var 0)))) (at_one (et_mulW pre.mulDD (et_q1 (q := a) (et_var 0)) (et_q1 (q := b) (et_var 1)))))) ?_) hR
  show tQ K (Rat.divInt _ _) = tQ K (a + b)
  rw [add_divInt]
theorem sc_ltimes : FnScope ["_law_one", "_law_other"] ["_law_one", "_law_other"] (defScope sLLawTimes) := ⟨rfl, rfl, rfl, by decide +kernel, rfl, by decide +kernel, by decide +kernel⟩
theorem fn_ltimes (T : Txt K mg) : Fn P w K mg base "_law_times" 3 ["_law_one", "_law_other"] [] (spTimes K) := by
  refine fn_of' (st := sLLawTimes) T.d__law_times (fun _ _ _ _ _ _ us h => match us, h with | [_, _], _ => rfl) sc_ltimes (fun _ => rfl) fun f cdv Ar outer s H E x pre hr S D hR _ => ?_
  obtain ⟨a, b⟩ := x
  have pre : SzOk a b := pre
  show BTy _ _ _ _ [some (tQ K a), some (tQ K b)] _ _
  refine bt_ret (et_eq (et_call (x := (a.num * b.num, a.den * b.den)) (fn_lratio T) hr pre.den (at_cons (et_mulW pre.mulNN (et_q0 (q := a) (et_var 0)) (et_q0 (q := b) (et_var 1))) (at_one (et_mulW pre.mulDD (et_q1 (q := a) (et_var 0)) (et_q1 (q := b) (et_var 1)))))) ?_) hR
  show tQ K (Rat.divInt _ _) = tQ K (a * b)
  rw [mul_divInt]
/-- the law's power: the parts' powers -/
abbrev spLPower (K : PySem.W.Frag) : Sp := spT (α := Rat × Nat) (fun x => [tQ K x.1, tI x.2]) (fun x => x.2 ≤ 99 ∧ ∃ m, Sz m x.1 ∧ (x.2 + 1) * m + 1 ≤ 9000) (fun x => tQ K (x.1 ^ x.2))
theorem sc_lpower : FnScope ["_law_one", "_law_exponent", "_law_found", "_law_turn"] ["_law_one", "_law_exponent"] (defScope sLLawPower) := ⟨rfl, rfl, rfl, by decide +kernel, rfl, by decide +kernel, by decide +kernel⟩
theorem pow_parts (q : Rat) (n : Nat) : (q ^ (n + 1)).num = (q ^ n).num * q.num ∧ ((q ^ (n + 1)).den : Int) = ((q ^ n).den : Int) * (q.den : Int) := by
  rw [Rat.num_pow, Rat.num_pow, Rat.den_pow, Rat.den_pow]
  constructor
  · rw [Int.pow_succ]
  · rw [Nat.pow_succ]
    exact Int.natCast_mul _ _
theorem fn_lpower (T : Txt K mg) : Fn P w K mg base "_law_power" 1 ["_law_one", "_law_exponent"] [] (spLPower K) := by
  refine fn_of' (st := sLLawPower) T.d__law_power (fun _ _ _ _ _ _ us h => match us, h with | [_, _], _ => rfl) sc_lpower (fun _ => rfl) fun f cdv Ar outer s H E x pre hr S D hR _ => ?_
  obtain ⟨q, e⟩ := x
  obtain ⟨he, m, hq, hm⟩ : e ≤ 99 ∧ ∃ m, Sz m q ∧ (e + 1) * m + 1 ≤ 9000 := pre
  have nd := sc_lpower.nd
  show BTy _ _ _ _ [some (tQ K q), some (tI e), none, none] _ _
  refine bt_set 2 nd (et_eq (et_tup (at_cons et_int (at_one et_int))) (tQ_of (q := 1) rfl rfl)) ?_
  refine bt_forR 3 e (fun n => [some (tQ K q), some (tI e), some (tQ K (q ^ n)), none]) (fun _ => []) nd PassesOwn.never T.f_range (et_var 1) (by omega) (el_eq (el_eq (el_le (fun v S h => by rw [Rat.pow_zero]; exact h) (el_no el_nil)))) rfl (fun S1 H1 g n hn => ?_) ?_
  · have ok := pow_ok hq hm hn
    obtain ⟨e1, e2⟩ := pow_parts q n
    refine bt_set 2 nd (et_eq (et_tup (at_cons (et_mulW ok.mulNN (et_q0 (q := q ^ n) (et_var 2)) (et_q0 (q := q) (et_var 0))) (at_one (et_mulW ok.mulDD (et_q1 (q := q ^ n) (et_var 2)) (et_q1 (q := q) (et_var 0)))))) (tQ_of e1 e2)) ?_
    exact bt_turn (fun _ _ h => h) (el_eq (el_eq (el_eq (el_no el_nil))))
  · exact bt_ret (et_var 2) hR
end
end K79
set_option Elab.async false
set_option linter.all false
set_option maxRecDepth 100000
/-! D4: words. -/
namespace K79
open PySem L2
open PyProof.Rows (envOfC)
/-- a row of signs -/
structure Signs (s : List Int) : Prop where
  l1 : 1 ≤ s.length
  l24 : s.length ≤ 24
  sg : ∀ x ∈ s, x = 1 ∨ x = -1
structure Word (s : List Int) : Prop extends Signs s where
  hd : s[0]? = some 1
def tW (K : PySem.W.Frag) (s : List Int) : Ty := tTup K (s.map tI)
def tWS (K : PySem.W.Frag) (s : List Int) : Ty := tSeq K (s.map tI)
theorem tW_S {K : PySem.W.Frag} {s : List Int} : (tW K s).le (tWS K s) := tTup_seq
theorem map_at {α β : Type} {f : α → β} {l : List α} {n : Nat} {x : α} (h : l[n]? = some x) : (l.map f)[n]? = some (f x) := by rw [List.getElem?_map, h]; rfl
section
variable {X : Cx} {O : Owns} {Γ : Env} {a e : Expr} {T : Ty} {ts : List Ty} {p q1 q2 pt pos : Pos} {kt : Nat}
/-- isinstance(a, (list, tuple)) of either -/
theorem et_isiS (hm : X.mg "isinstance" = none) (hT : X.mg "list" = none) (hU : X.mg "tuple" = none) (ha : ETy X O Γ a (tSeq X.K ts))
    (hg : Gl X "isinstance" := by rfl) (hgT : Gl X "list" := by rfl) (hgU : Gl X "tuple" := by rfl)
    (h1 : starEach (a :: .Tuple [.Name "list" q1, .Name "tuple" q2] kt pt :: []) X.env = (false, eval a X.env) :: starEach (.Tuple [.Name "list" q1, .Name "tuple" q2] kt pt :: []) X.env := by rfl) (h2 : starEach (.Tuple [.Name "list" q1, .Name "tuple" q2] kt pt :: []) X.env = (false, eval (.Tuple [.Name "list" q1, .Name "tuple" q2] kt pt) X.env) :: starEach [] X.env := by rfl) (hpl : (backTo pos (starEach [.Tuple [.Name "list" q1, .Name "tuple" q2] kt pt] X.env)).any (·.1) = false := by rfl)
    (h3 : starEach (.Name "list" q1 :: .Name "tuple" q2 :: []) X.env = (false, eval (.Name "list" q1) X.env) :: starEach (.Name "tuple" q2 :: []) X.env := by rfl) (h4 : starEach (.Name "tuple" q2 :: []) X.env = (false, eval (.Name "tuple" q2) X.env) :: starEach [] X.env := by rfl) :
    ETy X O Γ (.Call (.Name "isinstance" p) [a, .Tuple [.Name "list" q1, .Name "tuple" q2] kt pt] [] pos) (tBl true) :=
  et_callB call_isiT hm (by decide +kernel) (at_cons ha (at_cons (et_tupH (at_cons (et_ty (n := "list") hT (by decide +kernel) hgT) (at_cons (et_ty (n := "tuple") hU (by decide +kernel) hgU) at_nil h4) h3)) at_nil h2) h1) (fun vs S H Q h e k => by
    obtain ⟨u, c, rfl, hu, tp, cs, rfl, hc, h5⟩ := all2_2 h
    obtain ⟨c1, c2, rfl, e1, e2⟩ := all2_2 h5
    have e1 : c1 = .ty "list" := e1
    have e2 : c2 = .ty "tuple" := e2
    subst e1 e2
    have kk : ∀ n : String, n = "list" ∨ n = "tuple" → PySem.W.kitAny X.K (.type n) [.type "list", .type "tuple"] = some true := fun n hn => by
      rcases hn with rfl | rfl
      · exact kitAny_cons (kit_ty (a := "list") (b := "list") (r := true) (by decide +kernel)) (fun z => by cases z) (fun _ => rfl)
      · exact kitAny_cons (kit_ty (a := "tuple") (b := "list") (r := false) (by decide +kernel)) (fun _ => kitAny_cons (kit_ty (a := "tuple") (b := "tuple") (r := true) (by decide +kernel)) (fun z => by cases z) (fun _ => rfl)) (fun z => by cases z)
    rcases hu with hu | hu
    · exact ⟨u, tp, _, .type "list", _, true, rfl, e _ _ hc, .cons (.ty "list") (.cons (.ty "tuple") .nil), isTy_lst u S H e hu, kk "list" (.inl rfl), k _ S H (.refl e) rfl⟩
    · exact ⟨u, tp, _, .type "tuple", _, true, rfl, e _ _ hc, .cons (.ty "list") (.cons (.ty "tuple") .nil), isTy_tup u S H e hu, kk "tuple" (.inr rfl), k _ S H (.refl e) rfl⟩) hg (hpl := hpl) (he := h1)
end
section
variable {P : Program} {w : World} {K : PySem.W.Frag} {mg : Str → Option Value} {base : Heap}
/-! ### check_row, check_signs -/
abbrev spCheckRow (K : PySem.W.Frag) : Sp := spT (α := List Int) (fun s => [tWS K s]) Signs (fun s => tW K s)
theorem sc_checkRow : FnScope ["row", "number"] ["row"] (defScope sCheckRow) := ⟨rfl, rfl, rfl, by decide +kernel, rfl, by decide +kernel, by decide +kernel⟩
theorem whole_sign {x : Int} (h : x = 1 ∨ x = -1) : wholeB x (some (-1)) (some 1) = true := by
  rcases h with rfl | rfl <;> decide
theorem fn_checkRow (T : Txt K mg) : Fn P w K mg base "check_row" 2 ["row"] [] (spCheckRow K) := by
  refine fn_of' (st := sCheckRow) T.d_check_row (fun _ _ _ _ _ _ us h => match us, h with | [_], _ => rfl) sc_checkRow (fun _ => rfl) fun f cdv Ar outer s H E s' pre hr S D hR _ => ?_
  have pre : Signs s' := pre
  have nd := sc_checkRow.nd
  have hl : (s'.map tI).length = s'.length := List.length_map ..
  have l1 := pre.l1
  have l24 := pre.l24
  show BTy _ _ _ _ [some (tWS K s'), none] _ _
  -- if not isinstance(row, (list, tuple)) or not 1 <= len(row) <= MOST_SECTIONS: raise
  refine bt_no (tt_w (wt_or2 (tt_not (tt_val (et_isiS T.f_isinstance T.f_list T.f_tuple (et_var 0)))) (fun _ => wt_or1 (tt_not (tt_chain et_int (et_lenS T.f_len (et_var 0)) (et_intG T.i_MOST_SECTIONS)))))) ?_ ?_
  · show (!true || !(decide ((1 : Int) ≤ ((s'.map tI).length : Nat)) && decide ((((s'.map tI).length : Nat) : Int) ≤ 24))) = false
    rw [hl, decide_eq_true (by omega), decide_eq_true (by omega)]
    rfl
  -- for number in range(len(row)): ..
  refine bt_forR 1 s'.length (fun _ => [some (tWS K s'), none]) (fun _ => []) nd PassesOwn.never T.f_range (et_eq (et_lenS T.f_len (et_var 0)) (by rw [hl])) (by omega) (.refl _) rfl (fun S1 H1 g n hn => ?_) ?_
  · have e : s'[n]? = some s'[n] := List.getElem?_eq_getElem hn
    have hs := pre.sg _ (List.getElem_mem hn)
    refine bt_no (tt_w (wt_or2 (tt_not (tt_val (et_call (x := (s'[n], some (-1), some 1)) (fn_whole3 T) (hr.mono (by decide)) trivial (at_cons (et_ixS (et_var 0) (et_var 1) rfl (map_at e)) (at_cons (et_eq (et_neg et_int) rfl) (at_one et_int)))))) (fun _ => wt_or1 (tt_eq' (et_ixS (et_var 0) (et_var 1) rfl (map_at e)) et_int)))) ?_ ?_
    · show (!(wholeB s'[n] (some (-1)) (some 1)) || decide (s'[n] = 0)) = false
      rw [whole_sign hs, decide_eq_false (by rcases hs with h | h <;> omega)]
      rfl
    · exact bt_turn (fun _ _ h => h) (el_eq (el_no el_nil))
  · exact bt_ret (et_tupleS T.f_tuple (et_var 0)) hR
abbrev spCheckSigns (K : PySem.W.Frag) : Sp := spT (α := List Int) (fun s => [tWS K s]) Word (fun s => tW K s)
theorem sc_checkSigns : FnScope ["word", "found"] ["word"] (defScope sCheckSigns) := ⟨rfl, rfl, rfl, by decide +kernel, rfl, by decide +kernel, by decide +kernel⟩
theorem fn_checkSigns (T : Txt K mg) : Fn P w K mg base "check_signs" 3 ["word"] [] (spCheckSigns K) := by
  refine fn_of' (st := sCheckSigns) T.d_check_signs (fun _ _ _ _ _ _ us h => match us, h with | [_], _ => rfl) sc_checkSigns (fun _ => rfl) fun f cdv Ar outer s H E s' pre hr S D hR _ => ?_
  have pre : Word s' := pre
  have nd := sc_checkSigns.nd
  show BTy _ _ _ _ [some (tWS K s'), none] _ _
  refine bt_set 1 nd (et_call (x := s') (fn_checkRow T) hr pre.toSigns (at_one (et_var 0))) ?_
  refine bt_no (tt_eq' (et_ixT (k := 0) (et_var 1) et_int rfl (map_at pre.hd)) (et_eq (et_neg et_int) rfl)) (by decide) ?_
  exact bt_ret (et_var 1) hR

/-! ### crossings_of, _law_poles -/
def polesN (s : List Int) : List Nat := (List.range (s.length - 1)).filter fun j => decide (s.getD (1 + j) 0 ≠ s.getD j 0)
def poles (s : List Int) : List Int := (polesN s).map fun j => ((1 + j : Nat) : Int)
theorem getD_at {s : List Int} {j : Nat} (h : j < s.length) : s[j]? = some (s.getD j 0) := by
  rw [List.getD_eq_getElem?_getD, List.getElem?_eq_getElem h]
  rfl
theorem poles_ty (s : List Int) : (polesN s).map (fun j => tI ((1 + j : Nat) : Int)) = (poles s).map tI := by
  unfold poles
  rw [List.map_map]
  rfl
theorem ne_dec {a b : Int} : (!decide (a = b)) = decide (a ≠ b) := by
  by_cases h : a = b <;> simp [h]
abbrev spPoles (K : PySem.W.Frag) : Sp := spT (α := List Int) (fun s => [tWS K s]) Word (fun s => tTup K ((poles s).map tI))
abbrev nCross : List Str := ["word", "row", "pole"]
theorem sc_crossings : FnScope nCross ["word"] (defScope sCrossingsOf) := ⟨rfl, rfl, rfl, by decide +kernel, rfl, by decide +kernel, by decide +kernel⟩
theorem fn_crossings (T : Txt K mg) : Fn P w K mg base "crossings_of" 4 ["word"] [] (spPoles K) := by
  refine fn_of' (st := sCrossingsOf) T.d_crossings_of (fun _ _ _ _ _ _ us h => match us, h with | [_], _ => rfl) sc_crossings (fun _ => rfl) fun f cdv Ar outer s H E s' pre hr S D hR _ => ?_
  have pre : Word s' := pre
  have nd := sc_crossings.nd
  have l1 := pre.l1
  have l24 := pre.l24
  show BTy _ _ _ _ [some (tWS K s'), none, none] _ _
  refine bt_set 1 nd (et_call (x := s') (fn_checkSigns T) hr pre (at_one (et_var 0))) ?_
  refine bt_ret (et_tuple' T.f_tuple (et_eq (et_lcR2 (x := "pole") (k := 2) ⟨nd, blkOk_by (own := [("pole", 2)]) (N := nCross) (sc := defScope sCrossingsOf) (by decide +kernel), rfl, rfl⟩ 1 s'.length (s'.length - 1) (fun j => tI ((1 + j : Nat) : Int)) (fun j => decide (s'.getD (1 + j) 0 ≠ s'.getD j 0)) T.f_range et_int (et_eq (et_lenT T.f_len (et_var 1)) (by rw [List.length_map])) (by omega) (by omega) (fun j hj => ?_) (fun j hj _ s0 H0 C cl fp => et_var 2)) (congrArg (tLst K) (poles_ty s')))) hR
  have e1 : s'[1 + j]? = some (s'.getD (1 + j) 0) := getD_at (by omega)
  have e2 : s'[j]? = some (s'.getD j 0) := getD_at (by omega)
  exact ifs_one fun s0 H0 C cl fp => tt_eq (tt_ne (et_ixT (k := 1 + j) (et_var 1) (et_var 2) rfl (map_at e1)) (et_ixT (k := j) (et_var 1) (et_sub (et_var 2) et_int) (by omega) (map_at e2))) ne_dec
abbrev spLPoles (K : PySem.W.Frag) : Sp := spT (α := List Int) (fun s => [tW K s]) Signs (fun s => tTup K ((poles s).map tI))
abbrev nLPoles : List Str := ["_law_word", "_law_k"]
theorem sc_lpoles : FnScope nLPoles ["_law_word"] (defScope sLLawPoles) := ⟨rfl, rfl, rfl, by decide +kernel, rfl, by decide +kernel, by decide +kernel⟩
theorem fn_lpoles (T : Txt K mg) : Fn P w K mg base "_law_poles" 1 ["_law_word"] [] (spLPoles K) := by
  refine fn_of' (st := sLLawPoles) T.d__law_poles (fun _ _ _ _ _ _ us h => match us, h with | [_], _ => rfl) sc_lpoles (fun _ => rfl) fun f cdv Ar outer s H E s' pre hr S D hR _ => ?_
  have pre : Signs s' := pre
  have nd := sc_lpoles.nd
  have l1 := pre.l1
  have l24 := pre.l24
  show BTy _ _ _ _ [some (tW K s'), none] _ _
  refine bt_ret (et_tuple' T.f_tuple (et_eq (et_lcR2 (x := "_law_k") (k := 1) ⟨nd, blkOk_by (own := [("_law_k", 1)]) (N := nLPoles) (sc := defScope sLLawPoles) (by decide +kernel), rfl, rfl⟩ 1 s'.length (s'.length - 1) (fun j => tI ((1 + j : Nat) : Int)) (fun j => decide (s'.getD (1 + j) 0 ≠ s'.getD j 0)) T.f_range et_int (et_eq (et_lenT T.f_len (et_var 0)) (by rw [List.length_map])) (by omega) (by omega) (fun j hj => ?_) (fun j hj _ s0 H0 C cl fp => et_var 1)) (congrArg (tLst K) (poles_ty s')))) hR
  have e1 : s'[1 + j]? = some (s'.getD (1 + j) 0) := getD_at (by omega)
  have e2 : s'[j]? = some (s'.getD j 0) := getD_at (by omega)
  exact ifs_one fun s0 H0 C cl fp => tt_eq (tt_ne (et_ixT (k := 1 + j) (et_var 0) (et_var 1) rfl (map_at e1)) (et_ixT (k := j) (et_var 0) (et_sub (et_var 1) et_int) (by omega) (map_at e2))) ne_dec
end
end K79
set_option Elab.async false
set_option linter.all false
set_option maxRecDepth 100000
/-! D5: words turned, back, numbered; the law's own words. -/
namespace K79
open PySem L2
open PyProof.Rows (envOfC)
section
variable {X : Cx} {O : Owns} {Γ : Env} {a b c : Expr} {i j k : Int} {pos : Pos}
theorem et_chain (ha : ETy X O Γ a (tI i)) (hb : ETy X O Γ b (tI j)) (hc : ETy X O Γ c (tI k)) (hm : lastMarks [CmpOp.LtE, CmpOp.LtE] [b, c] = false := by rfl) : ETy X O Γ (.Compare a [.LtE, .LtE] [b, c] pos) (tBl (decide (i ≤ j) && decide (j ≤ k))) := fun σ F S H Q g o h q =>
  of_pe (pe_chain op_le op_le pe_w pe_w pe_w (hm := hm)) (ha σ F S H _ g o h fun x S1 H1 g1 t1 => hb σ F S1 H1 _ (g.m g1.s) (o.grow g1) g1.i fun y S2 H2 g2 t2 => by
    have e1 : x = .int i := t1
    have e2 : y = .int j := t2
    subst e1 e2
    refine ⟨i, j, rfl, rfl, _, rfl, ?_⟩
    by_cases h : i ≤ j
    · rw [decide_eq_true h]
      refine iteT (hc σ F S2 H2 _ ((g.m g1.s).m g2.s) ((o.grow g1).grow g2) g2.i fun z S3 H3 g3 t3 => ?_)
      have e3 : z = .int k := t3
      subst e3
      refine ⟨j, k, rfl, rfl, ?_⟩
      have := q (.bl (decide (i ≤ j) && decide (j ≤ k))) S3 H3 ((g1.trans g2).trans g3) rfl
      rw [decide_eq_true h, Bool.true_and] at this
      exact this
    · rw [decide_eq_false h]
      refine iteF ?_
      have := q (.bl (decide (i ≤ j) && decide (j ≤ k))) S2 H2 (g1.trans g2) rfl
      rw [decide_eq_false h, Bool.false_and] at this
      exact this)
end
section
variable {P : Program} {w : World} {K : PySem.W.Frag} {mg : Str → Option Value} {base : Heap}
/-! ### turned_word, backward_word -/
/-- the word so turned that its first sign is plus -/
def turned (s : List Int) : List Int := s.map fun x => s.headD 1 * x
theorem hd_at {s : List Int} (h : 1 ≤ s.length) : s[0]? = some (s.headD 1) := by
  cases s with
  | nil => simp at h
  | cons x r => rfl
theorem Signs.hd {s : List Int} (h : Signs s) : s.headD 1 = 1 ∨ s.headD 1 = -1 := by
  have l1 := h.l1
  cases s with
  | nil => simp at l1
  | cons x r => exact h.sg x (by simp)
theorem cmul_sign {x y : Int} (h : x = 1 ∨ x = -1) : CMul x y := .inl (by rcases h with rfl | rfl <;> decide)
theorem filt_true {α : Type} (l : List α) : (l.filter fun _ => true) = l := List.filter_eq_self.mpr fun _ _ => rfl
theorem map_map_ty {α β : Type} {f : β → Ty} {g : α → β} (l : List α) : ((l.filter fun _ => true).map fun x => f (g x)) = (l.map g).map f := by
  rw [filt_true, List.map_map]; rfl
abbrev spTurned (K : PySem.W.Frag) : Sp := spT (α := List Int) (fun s => [tWS K s]) Signs (fun s => tW K (turned s))
abbrev nTurned : List Str := ["signs", "row", "sign"]
theorem sc_turned : FnScope nTurned ["signs"] (defScope sTurnedWord) := ⟨rfl, rfl, rfl, by decide +kernel, rfl, by decide +kernel, by decide +kernel⟩
theorem fn_turned (T : Txt K mg) : Fn P w K mg base "turned_word" 3 ["signs"] [] (spTurned K) := by
  refine fn_of' (st := sTurnedWord) T.d_turned_word (fun _ _ _ _ _ _ us h => match us, h with | [_], _ => rfl) sc_turned (fun _ => rfl) fun f cdv Ar outer s H E s' pre hr S D hR _ => ?_
  have pre : Signs s' := pre
  have nd := sc_turned.nd
  have l24 := pre.l24
  show BTy _ _ _ _ [some (tWS K s'), none, none] _ _
  refine bt_set 1 nd (et_call (x := s') (fn_checkRow T) hr pre (at_one (et_var 0))) ?_
  refine bt_ret (et_tuple' T.f_tuple (et_eq (et_lcT (x := "sign") (k := 2) ⟨nd, blkOk_by (own := [("sign", 2)]) (N := nTurned) (sc := defScope sTurnedWord) (by decide +kernel), rfl, rfl⟩ s' tI (fun x => tI (s'.headD 1 * x)) (fun _ => true) (et_var 1) (by omega) (fun y _ => ifs_nil) (fun y _ _ s0 H0 C cl fp => et_mul (cmul_sign pre.hd) (et_ixT (k := 0) (et_var 1) et_int rfl (map_at (hd_at pre.l1))) (et_var 2))) (congrArg (tLst K) (map_map_ty s')))) hR
theorem turned_len {s : List Int} : (turned s).length = s.length := List.length_map ..
abbrev spBackward (K : PySem.W.Frag) : Sp := spT (α := List Int) (fun s => [tWS K s]) Word (fun s => tW K (turned s.reverse))
theorem sc_backwardW : FnScope ["word"] ["word"] (defScope sBackwardWord) := ⟨rfl, rfl, rfl, by decide +kernel, rfl, by decide +kernel, by decide +kernel⟩
theorem Signs.rev {s : List Int} (h : Signs s) : Signs s.reverse := ⟨by have := h.l1; simpa using this, by have := h.l24; simpa using this, fun x hx => h.sg x (by simpa using hx)⟩
theorem fn_backwardW (T : Txt K mg) : Fn P w K mg base "backward_word" 4 ["word"] [] (spBackward K) := by
  refine fn_of' (st := sBackwardWord) T.d_backward_word (fun _ _ _ _ _ _ us h => match us, h with | [_], _ => rfl) sc_backwardW (fun _ => rfl) fun f cdv Ar outer s H E s' pre hr S D hR _ => ?_
  have pre : Word s' := pre
  show BTy _ _ _ _ [some (tWS K s')] _ _
  refine bt_ret (et_call (x := s'.reverse) (fn_turned T) hr pre.toSigns.rev (at_one (et_le (et_revT (et_call (x := s') (fn_checkSigns T) hr pre (at_one (et_var 0)))) ?_))) hR
  rw [← List.map_reverse]
  exact tW_S
/-! ### number_of_word -/
def bitOf (x : Int) : Int := if x = -1 then 1 else 0
def bits (s : List Int) : Int := s.foldl (fun n x => n * 2 + bitOf x) 0
theorem bits_snoc (l : List Int) (x : Int) : bits (l ++ [x]) = bits l * 2 + bitOf x := by
  unfold bits
  rw [List.foldl_append]
  rfl
theorem bits_take {l : List Int} {n : Nat} {q : Int} (e : l[n]? = some q) : bits (l.take (n + 1)) = bits (l.take n) * 2 + bitOf q := by
  rw [List.take_add_one, e, Option.toList_some, bits_snoc]
abbrev spNumberW (K : PySem.W.Frag) : Sp := spT (α := List Int) (fun s => [tWS K s]) Word (fun s => tI (bits (s.drop 1)))
theorem sc_numberW : FnScope ["word", "row", "number", "sign"] ["word"] (defScope sNumberOfWord) := ⟨rfl, rfl, rfl, by decide +kernel, rfl, by decide +kernel, by decide +kernel⟩
theorem fn_numberW (T : Txt K mg) : Fn P w K mg base "number_of_word" 4 ["word"] [] (spNumberW K) := by
  refine fn_of' (st := sNumberOfWord) T.d_number_of_word (fun _ _ _ _ _ _ us h => match us, h with | [_], _ => rfl) sc_numberW (fun _ => rfl) fun f cdv Ar outer s H E s' pre hr S D hR _ => ?_
  have pre : Word s' := pre
  have nd := sc_numberW.nd
  show BTy _ _ _ _ [some (tWS K s'), none, none, none] _ _
  refine bt_set 1 nd (et_call (x := s') (fn_checkSigns T) hr pre (at_one (et_var 0))) ?_
  refine bt_set 2 nd et_int ?_
  refine bt_forT (ts := (s'.drop 1).map tI) 3 (fun n => [some (tWS K s'), some (tW K s'), some (tI (bits ((s'.drop 1).take n))), none]) (fun _ => []) nd PassesOwn.never (et_eq (et_fromT (i := 1) (et_var 1) et_int) (by rw [List.map_drop])) (el_eq (el_eq (el_eq (el_no el_nil)))) rfl (fun S1 H1 g n U hU => ?_) ?_
  · obtain ⟨q, e, rfl⟩ := at_map hU
    refine bt_set 2 nd (et_add (et_mul (.inr (by decide)) (et_var 2) et_int) (et_if (T := tI (bitOf q)) (tt_eq' (et_var 3) (et_eq (et_neg et_int) rfl)) (fun h => et_eq et_int (by have h : q = -1 := of_decide_eq_true h; rw [bitOf, if_pos h])) (fun h => et_eq et_int (by have h : ¬ q = -1 := of_decide_eq_false h; rw [bitOf, if_neg h])))) ?_
    refine bt_turn (fun _ _ h => h) ?_
    show EnvLe _ [_, _, some (tI (bits ((s'.drop 1).take (n + 1)))), none]
    rw [bits_take e]
    exact el_eq (el_eq (el_eq (el_no el_nil)))
  · rw [List.length_map, List.take_length]
    exact bt_ret (et_var 2) hR
/-! ### the law's own -/
abbrev spLTurned (K : PySem.W.Frag) : Sp := spT (α := List Int) (fun s => [tLst K (s.map tI)]) Signs (fun s => tW K (turned s))
abbrev nLTurned : List Str := ["_law_signs_here", "_law_sign"]
theorem sc_lturned : FnScope nLTurned ["_law_signs_here"] (defScope sLLawTurned) := ⟨rfl, rfl, rfl, by decide +kernel, rfl, by decide +kernel, by decide +kernel⟩
theorem fn_lturned (T : Txt K mg) : Fn P w K mg base "_law_turned" 1 ["_law_signs_here"] [] (spLTurned K) := by
  refine fn_of' (st := sLLawTurned) T.d__law_turned (fun _ _ _ _ _ _ us h => match us, h with | [_], _ => rfl) sc_lturned (fun _ => rfl) fun f cdv Ar outer s H E s' pre hr S D hR _ => ?_
  have pre : Signs s' := pre
  have nd := sc_lturned.nd
  have l24 := pre.l24
  show BTy _ _ _ _ [some (tLst K (s'.map tI)), none] _ _
  refine bt_ret (et_tuple' T.f_tuple (et_eq (et_lcL (x := "_law_sign") (k := 1) ⟨nd, blkOk_by (own := [("_law_sign", 1)]) (N := nLTurned) (sc := defScope sLLawTurned) (by decide +kernel), rfl, rfl⟩ s' tI (fun x => tI (s'.headD 1 * x)) (fun _ => true) (et_var 0) (by omega) (fun y _ => ifs_nil) (fun y _ _ s0 H0 C cl fp => et_mul (cmul_sign pre.hd) (et_ixL (k := 0) (et_var 0) et_int rfl (map_at (hd_at pre.l1))) (et_var 1))) (congrArg (tLst K) (map_map_ty s')))) hR
abbrev spLBack (K : PySem.W.Frag) : Sp := spT (α := List Int) (fun s => [tW K s]) Signs (fun s => tW K (turned s.reverse))
abbrev nLBack : List Str := ["_law_word", "_law_k"]
theorem sc_lback : FnScope nLBack ["_law_word"] (defScope sLLawBack) := ⟨rfl, rfl, rfl, by decide +kernel, rfl, by decide +kernel, by decide +kernel⟩
theorem rev_range (s : List Int) : (((List.range s.length).filter fun _ => true).map fun j => tI (s.getD (s.length - 1 - j) 0)) = s.reverse.map tI := by
  rw [filt_true]
  refine List.ext_getElem? fun n => ?_
  rw [List.getElem?_map, List.getElem?_map]
  rcases Nat.lt_or_ge n s.length with h | h
  · rw [List.getElem?_range h, List.getElem?_reverse h, Option.map_some, List.getD_eq_getElem?_getD, List.getElem?_eq_getElem (by omega)]
    rfl
  · rw [List.getElem?_eq_none (by simpa using h), List.getElem?_eq_none (by simpa using h)]
    rfl
theorem fn_lback (T : Txt K mg) : Fn P w K mg base "_law_back" 2 ["_law_word"] [] (spLBack K) := by
  refine fn_of' (st := sLLawBack) T.d__law_back (fun _ _ _ _ _ _ us h => match us, h with | [_], _ => rfl) sc_lback (fun _ => rfl) fun f cdv Ar outer s H E s' pre hr S D hR _ => ?_
  have pre : Signs s' := pre
  have nd := sc_lback.nd
  have l24 := pre.l24
  show BTy _ _ _ _ [some (tW K s'), none] _ _
  refine bt_ret (et_call (x := s'.reverse) (fn_lturned T) hr pre.rev (at_one (et_eq (et_lcR1 (x := "_law_k") (k := 1) ⟨nd, blkOk_by (own := [("_law_k", 1)]) (N := nLBack) (sc := defScope sLLawBack) (by decide +kernel), rfl, rfl⟩ s'.length (fun j => tI (s'.getD (s'.length - 1 - j) 0)) (fun _ => true) T.f_range (et_eq (et_lenT T.f_len (et_var 0)) (by rw [List.length_map])) (by omega) (fun j hj => ifs_nil) (fun j hj _ s0 H0 C cl fp => ?_)) (congrArg (tLst K) (rev_range s'))))) hR
  exact et_ixT (k := s'.length - 1 - j) (et_var 0) (et_sub (et_sub (et_lenT T.f_len (et_var 0)) et_int) (et_var 1)) (by rw [List.length_map]; omega) (map_at (getD_at (by omega)))
/-- the word of a number -/
def signsN (n : Nat) (v : Int) : List Int := (List.range n).map fun k => if (v / 2 ^ (n - 1 - k)) % 2 = 0 then 1 else -1
abbrev spLSigns (K : PySem.W.Frag) : Sp := spT (α := Nat × Int) (fun x => [tI x.1, tI x.2]) (fun x => x.1 ≤ 99) (fun x => tW K (signsN x.1 x.2))
abbrev nLSigns : List Str := ["_law_count", "_law_number", "_law_k"]
theorem sc_lsigns : FnScope nLSigns ["_law_count", "_law_number"] (defScope sLLawSigns) := ⟨rfl, rfl, rfl, by decide +kernel, rfl, by decide +kernel, by decide +kernel⟩
theorem fn_lsigns (T : Txt K mg) : Fn P w K mg base "_law_signs" 1 ["_law_count", "_law_number"] [] (spLSigns K) := by
  refine fn_of' (st := sLLawSigns) T.d__law_signs (fun _ _ _ _ _ _ us h => match us, h with | [_, _], _ => rfl) sc_lsigns (fun _ => rfl) fun f cdv Ar outer s H E x pre hr S D hR _ => ?_
  obtain ⟨n, v⟩ := x
  have pre : n ≤ 99 := pre
  have nd := sc_lsigns.nd
  show BTy _ _ _ _ [some (tI n), some (tI v), none] _ _
  refine bt_ret (et_tuple' T.f_tuple (et_eq (et_lcR1 (x := "_law_k") (k := 2) ⟨nd, blkOk_by (own := [("_law_k", 2)]) (N := nLSigns) (sc := defScope sLLawSigns) (by decide +kernel), rfl, rfl⟩ n (fun j => tI (if (v / 2 ^ (n - 1 - j)) % 2 = 0 then 1 else -1)) (fun _ => true) T.f_range (et_var 0) (by omega) (fun j hj => ifs_nil) (fun j hj _ s0 H0 C cl fp => ?_)) (congrArg (tLst K) (map_map_ty (f := tI) (g := fun j => if (v / 2 ^ (n - 1 - j)) % 2 = 0 then 1 else -1) (List.range n))))) hR
  have e : ((n : Int) - 1 - (j : Int)).toNat = n - 1 - j := by omega
  have e2 : v / 2 ^ ((n : Int) - 1 - (j : Int)).toNat % 2 = v / 2 ^ (n - 1 - j) % 2 := by rw [e]
  refine et_if (T := tI (if (v / 2 ^ (n - 1 - j)) % 2 = 0 then 1 else -1)) (tt_int (et_eq (et_mod (by decide) (et_intI T.f_int (et_shr (by omega) (et_var 1) (et_sub (et_sub (et_var 0) et_int) (et_var 2)))) et_int) (congrArg tI e2))) (fun h => ?_) fun h => ?_
  · have h : ¬ v / 2 ^ (n - 1 - j) % 2 = 0 := by simpa using h
    rw [if_neg h]
    exact et_eq (et_neg et_int) rfl
  · have h : v / 2 ^ (n - 1 - j) % 2 = 0 := by simpa using h
    rw [if_pos h]
    exact et_int
/-- _law_is_number -/
abbrev spLIsNumber : Sp := spT (α := Int × Int × Int) (fun x => [tI x.1, tI x.2.1, tI x.2.2]) (fun _ => True) (fun x => tBl (decide (x.2.1 ≤ x.1) && decide (x.1 ≤ x.2.2)))
theorem sc_lisnumber : FnScope ["_law_thing", "_law_low", "_law_high"] ["_law_thing", "_law_low", "_law_high"] (defScope sLLawIsNumber) := ⟨rfl, rfl, rfl, by decide +kernel, rfl, by decide +kernel, by decide +kernel⟩
theorem fn_lisnumber (T : Txt K mg) : Fn P w K mg base "_law_is_number" 1 ["_law_thing", "_law_low", "_law_high"] [] spLIsNumber := by
  refine fn_of' (st := sLLawIsNumber) T.d__law_is_number (fun _ _ _ _ _ _ us h => match us, h with | [_, _, _], _ => rfl) sc_lisnumber (fun _ => rfl) fun f cdv Ar outer s H E x pre hr S D hR _ => ?_
  obtain ⟨v, lo, hi⟩ := x
  show BTy _ _ _ _ [some (tI v), some (tI lo), some (tI hi)] _ _
  refine bt_ret (et_eq (et_and (k := true) (et_isi (n := "int") (N1 := "int") T.f_isinstance T.f_int (by decide +kernel) (by decide +kernel) isTy_int (et_var 0)) fun _ => et_and (k := true) (et_eq (et_not (et_isi (n := "int") (N1 := "bool") (b := false) T.f_isinstance T.f_bool (by decide +kernel) (by decide +kernel) isTy_int (et_var 0))) rfl) fun _ => et_one (et_chain (et_var 1) (et_var 0) (et_var 2))) ?_) hR
  simp only [Bool.true_and]
end
end K79
set_option Elab.async false
set_option linter.all false
set_option maxRecDepth 100000
/-! KO: owned objects: new lists and dicts, stores, freezing; own classes' objects: made, read, asked. -/
namespace K79
open PySem L2
open PyProof.Rows (envOfC)
/-! ### owned objects -/
theorem Grow.store {S0 H0 S H : Hp} {a : Addr} {o : HO} (g : Grow S0 H0 S H) (h0 : H0 a = none) (hs : S a = none) : Grow S0 H0 S (upd H a o) := by
  refine ⟨g.s, fun b u e => ?_, fun b u e => ?_, g.f⟩
  · rw [upd_ne (ne_of_none e hs)]; exact g.i b u e
  · rw [upd_ne (ne_of_none e h0)]; exact g.h b u e
/-- what is owned becomes pure (as o', that stands there) -/
theorem Grow.freeze {S0 H0 S H : Hp} {a : Addr} {o : HO} (g : Grow S0 H0 S H) (h0 : H0 a = none) (hs : S a = none) : Grow S0 H0 (upd S a o) (upd H a o) := by
  refine ⟨g.s.trans (same_upd hs), upd_both g.i, fun b u e => ?_, fun b u e n => ?_⟩
  · rw [upd_ne (ne_of_none e h0)]; exact g.h b u e
  · by_cases hb : b = a
    · rw [hb]; exact .inl h0
    · rw [upd_ne hb] at e
      exact g.f b u e n
theorem OwnOk.cons {O : Owns} {F S H : Hp} {a : Addr} {o : HO} {w : Own} (h : OwnOk O F S H) (hF : F a = none) (hS : S a = none) (hH : H a = none) (hw : w.p a S o) : OwnOk ((a, w) :: O) F S (upd H a o) := by
  refine ⟨?_, fun k b w' e => ?_⟩
  · rw [List.map_cons, List.nodup_cons]
    refine ⟨fun z => ?_, h.nd⟩
    obtain ⟨⟨b, w'⟩, hm, eb⟩ := List.mem_map.mp z
    have eb : b = a := eb
    subst eb
    obtain ⟨k, hk⟩ := List.mem_iff_getElem?.mp hm
    obtain ⟨_, _, o', h3, _⟩ := h.at_ k _ _ hk
    rw [hH] at h3
    cases h3
  · cases k with
    | zero =>
      have e : (a, w) = (b, w') := by simpa using e
      cases e
      exact ⟨hF, hS, o, upd_same, hw⟩
    | succ k =>
      obtain ⟨h1, h2, o', h3, h4⟩ := h.at_ k b w' (by simpa using e)
      exact ⟨h1, h2, o', by rw [upd_ne (ne_of_none h3 hH)]; exact h3, h4⟩
theorem OwnOk.ne {O : Owns} {F S H : Hp} (h : OwnOk O F S H) {j k : Nat} {a b : Addr} {w w' : Own} (e1 : O[j]? = some (a, w)) (e2 : O[k]? = some (b, w')) (d : j ≠ k) : a ≠ b := fun z => by
  have h1 : (O.map (·.1))[j]? = some a := by rw [List.getElem?_map, e1]; rfl
  have h2 : (O.map (·.1))[k]? = some a := by rw [List.getElem?_map, e2, z]; rfl
  have l1 := (List.getElem?_eq_some_iff.mp h1).1
  exact d ((List.getElem?_inj l1 h.nd).mp (h1.trans h2.symm))
theorem OwnOk.upd {O : Owns} {F S H : Hp} (h : OwnOk O F S H) {k : Nat} {a : Addr} {w w' : Own} {o' : HO} (e : O[k]? = some (a, w)) (hw : w'.p a S o') : OwnOk (O.set k (a, w')) F S (L2.upd H a o') := by
  have hk := (List.getElem?_eq_some_iff.mp e).1
  refine ⟨?_, fun j b w2 e2 => ?_⟩
  · rw [List.map_set]
    have z : (O.map (·.1)).set k a = O.map (·.1) := by
      refine List.ext_getElem? fun i => ?_
      by_cases hi : k = i
      · subst hi
        rw [List.getElem?_set_self (by simpa using hk), List.getElem?_map, e]
        rfl
      · rw [List.getElem?_set_ne hi]
    show ((O.map (·.1)).set k a).Nodup
    rw [z]
    exact h.nd
  · by_cases hj : k = j
    · subst hj
      rw [List.getElem?_set_self hk] at e2
      cases e2
      obtain ⟨h1, h2, _⟩ := h.at_ k a w e
      exact ⟨h1, h2, o', upd_same, hw⟩
    · rw [List.getElem?_set_ne hj] at e2
      obtain ⟨h1, h2, o2, h3, h4⟩ := h.at_ j b w2 e2
      exact ⟨h1, h2, o2, by rw [upd_ne (h.ne e2 e (Ne.symm hj))]; exact h3, h4⟩
/-- the first one is frozen -/
theorem OwnOk.frz {O : Owns} {F S H : Hp} {a : Addr} {w : Own} {o : HO} (h : OwnOk ((a, w) :: O) F S H) : OwnOk O F (L2.upd S a o) (L2.upd H a o) := by
  obtain ⟨hF, hS, _⟩ := h.at_ 0 a w rfl
  refine ⟨(List.nodup_cons.mp h.nd).2, fun k b w2 e => ?_⟩
  have e' : ((a, w) :: O)[k + 1]? = some (b, w2) := by simpa using e
  obtain ⟨h1, h2, o2, h3, h4⟩ := h.at_ (k + 1) b w2 e'
  have ne : b ≠ a := h.ne e' (j := k + 1) (k := 0) rfl (by omega)
  exact ⟨h1, by rw [upd_ne ne]; exact h2, o2, by rw [upd_ne ne]; exact h3, w2.m (same_upd hS) h4⟩
section
variable {X : Cx} {S0 H0 : Hp} {O : Owns} {Γ Δ : Env} {D : Ends} {e a b c : Expr} {es : List Expr} {rest body orelse : List Stmt} {T U R : Ty} {ts : List Ty} {pos pos' : Pos} {x : Str} {i : Nat} {k : Bool}
/-- x = [] -/
theorem bt_newL (i : Nat) (nd : X.N.Nodup) (hr : ∀ p, BTy X S0 H0 ((p, oL []) :: O) (Γ.set i (some (tV (.ref p)))) rest D) (hi : X.N[i]? = some x := by rfl) (hx : Loc X.env.scope x := by first | exact Or.inl rfl | exact Or.inr rfl)
    (hf : X.fn x = true ∨ X.env.scope.names.lookup x = some .local := by first | exact .inl rfl | exact .inr rfl | assumption) {p1 p2 : Pos} (hs : swapsWith (.List [] p1) (some (.Name x p2)) pos.line X.env = pure false := by rfl) : BTy X S0 H0 O Γ (.Assign [.Name x p2] (.List [] p1) pos :: rest) D := fun σ S H g g1 o =>
  of_pss (pss_cons (ps_set nd hi hx (pe_lst pa_nil) hs hf) pss_w) ⟨Nat.zero_le _, fun p hp => by
    have hS : S p = none := g.i.free hp
    have hF : H0 p = none := g.h.free hp
    exact hr p _ S _ (g.store hF hS) (g1.set i rfl) (o.cons hF hS hp ⟨[], rfl, .nil⟩)⟩
/-- x = {} -/
theorem bt_newD (i : Nat) (nd : X.N.Nodup) (hr : ∀ p, BTy X S0 H0 ((p, oD []) :: O) (Γ.set i (some (tV (.ref p)))) rest D) (hi : X.N[i]? = some x := by rfl) (hx : Loc X.env.scope x := by first | exact Or.inl rfl | exact Or.inr rfl)
    (hf : X.fn x = true ∨ X.env.scope.names.lookup x = some .local := by first | exact .inl rfl | exact .inr rfl | assumption) {p1 p2 : Pos} (hs : swapsWith (.Dict [] [] p1) (some (.Name x p2)) pos.line X.env = pure false := by rfl) : BTy X S0 H0 O Γ (.Assign [.Name x p2] (.Dict [] [] p1) pos :: rest) D := fun σ S H g g1 o =>
  of_pss (pss_cons (ps_set nd hi hx pe_dnewT hs hf) pss_w) fun p hp => by
    have hS : S p = none := g.i.free hp
    have hF : H0 p = none := g.h.free hp
    exact hr p _ S _ (g.store hF hS) (g1.set i rfl) (o.cons hF hS hp rfl)
/-- xs.append(e) -/
theorem bt_app (k : Nat) {p : Addr} {ap cp : Pos} {o : Expr} (hk : O[k]? = some (p, oL ts)) (ho : ETy X O Γ o (tV (.ref p))) (he : ETy X O Γ e T) (hl : ts.length ≤ 99999) (hr : BTy X S0 H0 (O.set k (p, oL (ts ++ [T]))) Γ rest D)
    (hs0 : swapsWith (.Call (.Attribute o "append" ap) [e] [] cp) none pos.line X.env = pure false := by rfl) (hbase : attributeBase o "append" X.env (eval o X.env) = eval o X.env := by rfl)
    (hfew : ((backTo cp (starEach (e :: []) X.env)).all (fun x => !x.1) && (backToKw cp (keywordEach [] X.env)).all (fun x => x.1.isSome)
      && decide ((e :: []).length + ([] : List Keyword).length + (if ([] : List Keyword).isEmpty then 0 else 1) < 30)) = true := by rfl)
    (hline : (ap.endLine == cp.line) = true := by rfl) (hs : starEach (e :: []) X.env = (false, eval e X.env) :: starEach [] X.env := by rfl) (hplain : (backTo cp (starEach [] X.env)).any (·.1) = false := by rfl) : BTy X S0 H0 O Γ (.Expr (.Call (.Attribute o "append" ap) [e] [] cp) pos :: rest) D := fun σ S H g g1 oo =>
  of_pss (pss_cons (ps_expr (pe_bm (r := rAppend) PySem.F.plainAttrs_list PySem.F.slot_list_append PySem.F.type_list_append mt_append pe_w (pa_cons pe_w pa_nil hs) hbase hfew hline hs hplain) hs0) pss_w) (ho σ H0 S H _ g1 oo g.i fun v S1 H1 g2 t => by
    have t : v = .ref p := t
    subst t
    have o1 := oo.grow g2
    obtain ⟨_, _, u1, h3, vs1, h4, _⟩ := o1.at_ k _ _ hk
    subst h4
    refine ⟨.inl ⟨rfl, vs1, .inl (.inl h3)⟩, he σ H0 S1 H1 _ (g1.m g2.s) o1 g2.i fun w S2 H2 g3 hw => ?_⟩
    have o2 := o1.grow g3
    obtain ⟨hF, hS, u2, h5, vs2, h6, h7⟩ := o2.at_ k _ _ hk
    subst h6
    refine ⟨p, vs2, w, rfl, rfl, h5, ?_, ?_⟩
    · rw [← h7.len]
      exact Nat.lt_of_le_of_lt hl (by decide)
    · have gg := (g.trans g2).trans g3
      exact hr σ S2 _ (gg.store hF hS) ((g1.m g2.s).m g3.s) (o2.upd hk ⟨vs2 ++ [w], rfl, h7.append (.cons hw .nil)⟩))
end
end K79
set_option Elab.async false
set_option linter.all false
set_option maxRecDepth 100000
/-! KP: freezing, dicts with tuples of ints as keys; own classes' objects. -/
namespace K79
open PySem L2
open PyProof.Rows (envOfC)
theorem upd_self {H : Hp} {a : Addr} {o : HO} (h : H a = some o) : upd H a o = H := by
  funext b
  by_cases hb : b = a
  · rw [hb, upd_same, h]
  · rw [upd_ne hb]
/-- a tuple that stands in H is taken into S -/
theorem absorb {S H : Hp} {q : Addr} {xs : List V} (i : Same S H) (h : H q = some (.tup xs)) : ∃ S', Grow S H S' H ∧ S' q = some (.tup xs) := by
  cases e : S q with
  | some o =>
    have := i q o e
    rw [h] at this
    cases this
    exact ⟨S, .refl i, e⟩
  | none =>
    refine ⟨upd S q (.tup xs), ⟨same_upd e, fun b u e2 => ?_, Same.refl _, fun b u e2 n => ?_⟩, upd_same⟩
    · by_cases hb : b = q
      · subst hb; rw [upd_same] at e2; cases e2; exact h
      · rw [upd_ne hb] at e2; exact i b u e2
    · by_cases hb : b = q
      · subst hb; exact .inr ⟨xs, h⟩
      · rw [upd_ne hb, n] at e2; cases e2
/-! ### keys -/
def dk (r : List Int) : List Key := r.map Sum.inl
theorem dk_kV (r : List Int) : (dk r).map kV = r.map V.int := by unfold dk; rw [List.map_map]; rfl
theorem dk_inj {r s : List Int} (h : dk r = dk s) : r = s := by
  unfold dk at h
  exact List.map_inj_right (fun _ _ e => Sum.inl.inj e) |>.mp h
abbrev Dt := List (List Int × V)
def toK (d : Dt) : List (List Key × V) := d.map fun p => (dk p.1, p.2)
theorem valV_toK (d : Dt) (r : List Int) : valV (toK d) (dk r) = valV d r := by
  unfold valV toK
  rw [List.find?_map, Option.map_map]
  have e : ((fun kv : List Key × V => decide (kv.1 = dk r)) ∘ fun p : List Int × V => (dk p.1, p.2)) = fun p => decide (p.1 = r) := by
    funext p
    show decide (dk p.1 = dk r) = decide (p.1 = r)
    by_cases h : p.1 = r
    · rw [h]; simp
    · rw [decide_eq_false h, decide_eq_false fun z => h (dk_inj z)]
  rw [e]
  rfl
theorem putK_toK (d : Dt) (r : List Int) (v : V) : putK (toK d) (dk r) v = toK (putK d r v) := by
  unfold putK toK
  have e : ((d.map fun p : List Int × V => (dk p.1, p.2)).any fun kv => decide (kv.1 = dk r)) = d.any fun kv => decide (kv.1 = r) := by
    rw [List.any_map]
    congr 1
    funext p
    show decide (dk p.1 = dk r) = decide (p.1 = r)
    by_cases h : p.1 = r
    · rw [h]; simp
    · rw [decide_eq_false h, decide_eq_false fun z => h (dk_inj z)]
  rw [e]
  split
  · rw [List.map_map, List.map_map]
    refine List.map_congr_left fun p _ => ?_
    show (if dk p.1 = dk r then (dk p.1, v) else (dk p.1, p.2)) = (dk (if p.1 = r then (p.1, v) else p).1, (if p.1 = r then (p.1, v) else p).2)
    by_cases h : p.1 = r
    · rw [if_pos h, if_pos (by rw [h])]
    · rw [if_neg h, if_neg fun z => h (dk_inj z)]
  · rw [List.map_append]
    rfl
theorem toK_len (d : Dt) : (toK d).length = d.length := List.length_map ..
/-- an owned dict with rows as keys -/
abbrev oDi (d : Dt) : Own := oD (toK d)
/-- a dict that stays -/
def tDic (d : Dt) : Ty := ⟨fun v S => ∃ a od, v = .ref a ∧ S a = some (.frz od (.dT (toK d))), fun e ⟨a, od, h1, h2⟩ => ⟨a, od, h1, e _ _ h2⟩⟩
section
variable {X : Cx} {S0 H0 : Hp} {O : Owns} {Γ Δ : Env} {D : Ends} {e a b c o : Expr} {es : List Expr} {rest body orelse : List Stmt} {T U R : Ty} {ts : List Ty} {pos pos' : Pos} {x : Str} {i : Nat} {k : Bool} {p : Addr} {d : Dt} {r : List Int} {v : V}
theorem EnvOk.retype {Γ : Env} {σ : L2.St} {S : Hp} {i : Nat} {v : V} {T : Ty} (h : EnvOk Γ σ S) (hi : Γ[i]? = some (some (tV v))) (hT : T.p v S) : EnvOk (Γ.set i (some T)) σ S := ⟨by simpa using h.len, fun j U q => by
  by_cases hj : i = j
  · subst hj
    rw [List.getElem?_set_self (List.getElem?_eq_some_iff.mp hi).1] at q
    cases q
    obtain ⟨u, e1, e2⟩ := h.at_ i _ hi
    have e2 : u = v := e2
    subst e2
    exact ⟨u, e1, hT⟩
  · rw [List.getElem?_set_ne hj] at q
    exact h.at_ j U q⟩
/-- an owned list becomes pure -/
theorem bt_frzL (i : Nat) (hi : Γ[i]? = some (some (tV (.ref p)))) (hr : BTy X S0 H0 O (Γ.set i (some (tLst X.K ts))) rest D) : BTy X S0 H0 ((p, oL ts) :: O) Γ rest D := fun σ S H g g1 oo => by
  obtain ⟨hF, hS, u, h3, vs, h4, h5⟩ := oo.at_ 0 _ _ rfl
  subst h4
  have o2 := oo.frz (o := .lst vs)
  have g2 := g.freeze (o := .lst vs) hF hS
  rw [upd_self h3] at o2 g2
  exact hr σ _ H g2 ((g1.m (same_upd hS)).retype hi ⟨p, vs, rfl, SqL.of upd_same, h5.m (same_upd hS)⟩) o2
/-- an owned dict becomes pure (locked for good) -/
theorem bt_frzD (i : Nat) (hi : Γ[i]? = some (some (tV (.ref p)))) (hr : BTy X S0 H0 O (Γ.set i (some (tDic d))) rest D) : BTy X S0 H0 ((p, oDi d) :: O) Γ rest D := fun σ S H g g1 oo pins s I => by
  obtain ⟨hF, hS, u, h3, h4⟩ := oo.at_ 0 _ _ rfl
  have h4 : u = .dT (toK d) := h4
  subst h4
  obtain ⟨od, I1⟩ := I.lock h3 True.intro
  exact hr σ _ _ (g.freeze (o := .frz od (.dT (toK d))) hF hS) ((g1.m (same_upd hS)).retype hi ⟨p, od, rfl, upd_same⟩) oo.frz pins s I1
/-- d[k] = v, d owned -/
theorem bt_dput (j : Nat) (hk : O[j]? = some (p, oDi d)) (hu : X.A.units + 1 < cLine) (ho : ETy X O Γ o (tV (.ref p))) (hi : ETy X O Γ a (tRow r)) (he : ETy X O Γ e (tV v)) (hl : d.length ≤ 99999) (hr : BTy X S0 H0 (O.set j (p, oDi (putK d r v))) Γ rest D)
    {p2 : Pos} (hs2 : swapsWith e (some (.Subscript o a p2)) pos.line X.env = pure false := by rfl) : BTy X S0 H0 O Γ (.Assign [.Subscript o a p2] e pos :: rest) D := fun σ S H g g1 oo =>
  of_pss (pss_cons (ps_dput hu pe_w pe_w pe_w hs2) pss_w) (he σ H0 S H _ g1 oo g.i fun w S1 H1 g2 hw => ho σ H0 S1 H1 _ (g1.m g2.s) (oo.grow g2) g2.i fun u S2 H2 g3 hu => hi σ H0 S2 H2 _ ((g1.m g2.s).m g3.s) ((oo.grow g2).grow g3) g3.i fun y S3 H3 g4 ⟨b, hb, hbS⟩ => by
    have hw : w = v := hw
    have hu : u = .ref p := hu
    subst hw hu hb
    have o3 := ((oo.grow g2).grow g3).grow g4
    obtain ⟨hF, hS, u, h5, h6⟩ := o3.at_ j _ _ hk
    have h6 : u = .dT (toK d) := h6
    subst h6
    have gg := ((g.trans g2).trans g3).trans g4
    refine ⟨p, _, rfl, .inr ⟨toK d, dk r, b, h5, rfl, ?_, ?_, rfl⟩, ?_⟩
    · rw [dk_kV]; exact gg.i _ _ hbS
    · rw [toK_len]; exact Nat.lt_of_le_of_lt hl (by decide)
    · rw [putK_toK]
      exact hr σ S3 _ (gg.store hF hS) (((g1.m g2.s).m g3.s).m g4.s) (o3.upd hk rfl))
/-- d[k] -/
theorem et_dget (hu : X.A.units + 1 < cLine) (ho : ETy X O Γ o (tDic d)) (hi : ETy X O Γ a (tRow r)) (hv : valV d r = some v) (hs : NoSl a := by exact fun _ _ => rfl) : ETy X O Γ (.Subscript o a pos) (tV v) := fun σ F S H Q g oo i q =>
  of_pe (pe_dget hu pe_w pe_w hs) (ho σ F S H _ g oo i fun u S1 H1 g1 ⟨b, od, e1, e2⟩ => hi σ F S1 H1 _ (g.m g1.s) (oo.grow g1) g1.i fun y S2 H2 g2 ⟨c, e3, e4⟩ => by
    subst e1 e3
    refine ⟨b, v, rfl, .inr ⟨toK d, dk r, c, .inr ⟨od, (g2.s.trans g2.i) _ _ e2⟩, rfl, ?_, ?_⟩, q v S2 H2 (g1.trans g2) rfl⟩
    · rw [dk_kV]; exact g2.i _ _ e4
    · rw [valV_toK, hv])
/-- len(d), d owned -/
theorem et_lenOD {pc : Pos} (j : Nat) (hk : O[j]? = some (p, oDi d)) (hm : X.mg "len" = none) (ha : ETy X O Γ e (tV (.ref p))) (hg : Gl X "len" := by rfl) (hs : starEach (e :: []) X.env = (false, eval e X.env) :: starEach [] X.env := by rfl) (hpl : (backTo pos (starEach [] X.env)).any (·.1) = false := by rfl) : ETy X O Γ (.Call (.Name "len" pc) [e] [] pos) (tI d.length) := fun σ F S H Q g oo i q =>
  of_pe (pe_callB call_len_dT hg hm PySem.boot_len pa_w (by decide) (by decide) hs hpl) (at_one ha hs σ F S H _ g oo i fun vs S1 H1 g1 t1 => by
    obtain ⟨u, rfl, hu⟩ := all2_1 t1
    have hu : u = .ref p := hu
    subst hu
    obtain ⟨_, _, w, h3, h4⟩ := (oo.grow g1).at_ j _ _ hk
    have h4 : w = .dT (toK d) := h4
    subst h4
    refine ⟨p, toK d, rfl, h3, q _ S1 H1 g1 ?_⟩
    rw [toK_len]
    rfl)
/-- tuples, one by one, are taken into S -/
theorem absorbs {H : Hp} : ∀ {S : Hp} {d : Dt} {bs : List Addr}, Same S H → IsKeys H (toK d) bs → ∃ S', Grow S H S' H ∧ All2 (d.map fun p => tRow p.1) (bs.map V.ref) S'
  | S, [], _, i, h => by cases h; exact ⟨S, .refl i, .nil⟩
  | S, p :: d, _, i, h => by
    cases h with
    | @cons q b qs bs h t =>
      obtain ⟨S1, g1, h1⟩ := absorb i (show H b = some (.tup (p.1.map V.int)) by rw [← dk_kV]; exact h)
      obtain ⟨S2, g2, h2⟩ := absorbs g1.i t
      exact ⟨S2, g1.trans g2, .cons ⟨b, rfl, g2.s _ _ h1⟩ h2⟩
/-- list(d) -/
theorem et_listD {pc : Pos} (hc : X.calm = true) (hm : X.mg "list" = none) (ha : ETy X O Γ e (tDic d)) (hg : Gl X "list" := by rfl) (hs : starEach (e :: []) X.env = (false, eval e X.env) :: starEach [] X.env := by rfl) (hpl : (backTo pos (starEach [] X.env)).any (·.1) = false := by rfl) : ETy X O Γ (.Call (.Name "list" pc) [e] [] pos) (tLst X.K (d.map fun p => tRow p.1)) := fun σ F S H Q g oo i q =>
  of_pe (pe_callTy (call_list_dT hc) hg hm (by decide +kernel) pa_w (by decide) (by decide) hs hpl) (at_one ha hs σ F S H _ g oo i fun vs S1 H1 g1 t1 => by
    obtain ⟨u, rfl, b, od, e1, e2⟩ := all2_1 t1
    subst e1
    refine ⟨b, toK d, rfl, .inr ⟨od, g1.i _ _ e2⟩, fun l bs hl ik => ?_⟩
    obtain ⟨S2, g2, h2⟩ := absorbs g1.i ik
    exact q (.ref l) (upd S2 l (.lst (bs.map V.ref))) _ ((g1.trans g2).trans (.new g2.i hl)) ⟨l, _, rfl, SqL.of upd_same, h2.m (same_upd (g2.i.free hl))⟩)
/-- for x in d -/
theorem bt_forD (i : Nat) (G : Nat → Env) (OO : Nat → Owns) (nd : X.N.Nodup) (hp : PassesOwn (model X.prog X.w) X.A X.env X.xe) (hi : ETy X O Γ e (tDic d)) (h0 : EnvLe Γ (G 0)) (o0 : OO 0 = O)
    (hb : ∀ S1 H1, Grow S0 H0 S1 H1 → ∀ n q, d[n]? = some q → BTy X S1 H0 (OO n) ((G n).set i (some (tRow q.1))) body { D with nx := Nx S1 H0 (OO (n + 1)) (G (n + 1)), ct := Nx S1 H0 (OO (n + 1)) (G (n + 1)), bk := wSs X rest D })
    (hr : BTy X S0 H0 (OO d.length) (G d.length) rest D) (hx : X.N[i]? = some x := by rfl) (hl : Loc X.env.scope x := by first | exact Or.inl rfl | exact Or.inr rfl) (hf : X.fn x = true ∨ X.env.scope.names.lookup x = some .local := by first | exact .inl rfl | exact .inr rfl | assumption)
    (hc : X.calm = true := by rfl) (hs : ∀ x, foldedSetIterable e X.env x = pure x := by intro _; rfl) : BTy X S0 H0 O Γ (.For (.Name x pos') e body [] pos :: rest) D := fun σ S H g0 g1 o =>
  of_pss (pss_cons (ps_for hp hc (pi_keys pe_w) (pg_name nd hx hl hf) pss_w hs) pss_w) (hi σ H0 S H _ g1 o g0.i fun v S1 H1 g2 ⟨a, od, h1, h2⟩ => ⟨a, od, h1, .inr ⟨toK d, g2.i _ _ h2, by
    have gg := g0.trans g2
    have keep : ∀ {S' H'}, Same S1 S' → Same S' H' → H' a = some (.frz od (.dT (toK d))) := fun e1 e2 => e2 _ _ (e1 _ _ h2)
    refine ⟨fun n m σ H => m = d.length - n ∧ n ≤ d.length ∧ Nx S1 H0 (OO n) (G n) σ H, ⟨d.length, by simp, Nat.zero_le _, S1, gg.forth (.refl g2.i), (g1.m g2.s).le h0, by rw [o0]; exact o.grow g2⟩, ?_⟩
    rintro n m σ H ⟨rfl, hn, S, g, en, oo⟩
    by_cases hlt : n < d.length
    · refine .inr ⟨⟨keep g.s g.i, by rw [toK_len]; exact hlt⟩, Nx S1 H0 (OO (n + 1)) (G (n + 1)), fun σ' H' hN => ⟨d.length - (n + 1), by omega, rfl, hlt, hN⟩, fun y H' hy => ?_⟩
      obtain ⟨rfl, k, v, q, hk, rfl, hq⟩ := hy
      obtain ⟨z, hz, ez⟩ := at_map hk
      cases ez
      rw [dk_kV] at hq
      obtain ⟨S2, g3, h3⟩ := absorb g.i hq
      exact hb S1 H1 gg n z hz _ S2 H' (g.trans g3) ((en.m g3.s).set i ⟨q, rfl, h3⟩) (oo.grow g3)
    · have e : n = d.length := by omega
      subst e
      exact .inl ⟨⟨keep g.s g.i, by rw [toK_len]; exact Nat.le_refl _⟩, hr.rebase gg σ S H g en oo⟩⟩⟩)
end
end K79
set_option Elab.async false
set_option linter.all false
set_option maxRecDepth 100000
/-! KQ: own classes' objects: made, stored to, read, their methods, len, a property. -/
namespace K79
open PySem L2
open PyProof.Rows (envOfC)
inductive FsOk : List (Str × Ty) → List (Str × V) → Hp → Prop
  | nil {S : Hp} : FsOk [] [] S
  | cons {f : Str} {T : Ty} {v : V} {fts : List (Str × Ty)} {fs : List (Str × V)} {S : Hp} : T.p v S → FsOk fts fs S → FsOk ((f, T) :: fts) ((f, v) :: fs) S
theorem FsOk.m {fts : List (Str × Ty)} {fs : List (Str × V)} {S S' : Hp} (e : Same S S') (h : FsOk fts fs S) : FsOk fts fs S' := by
  induction h with
  | nil => exact .nil
  | cons h _ ih => exact .cons (Ty.m _ e h) (ih e)
theorem FsOk.len {fts : List (Str × Ty)} {fs : List (Str × V)} {S : Hp} (h : FsOk fts fs S) : fts.length = fs.length := by
  induction h with
  | nil => rfl
  | cons _ _ ih => simp [ih]
theorem FsOk.get {fts : List (Str × Ty)} {fs : List (Str × V)} {S : Hp} (h : FsOk fts fs S) {f : Str} {T : Ty} : fts.lookup f = some T → ∃ u, fs.lookup f = some u ∧ T.p u S := by
  induction h with
  | nil => intro e; cases e
  | @cons g U v fts fs S hv _ ih =>
    intro e
    by_cases hg : (f == g) = true
    · simp only [List.lookup, hg] at e ⊢
      cases e
      exact ⟨v, rfl, hv⟩
    · have hg : (f == g) = false := by simpa using hg
      simp only [List.lookup, hg] at e ⊢
      exact ih e
theorem FsOk.no {fts : List (Str × Ty)} {fs : List (Str × V)} {S : Hp} (h : FsOk fts fs S) {f : Str} : fts.lookup f = none → fs.lookup f = none := by
  induction h with
  | nil => intro _; rfl
  | @cons g U v fts fs S hv _ ih =>
    intro e
    by_cases hg : (f == g) = true
    · simp only [List.lookup, hg] at e
      cases e
    · have hg : (f == g) = false := by simpa using hg
      simp only [List.lookup, hg] at e ⊢
      exact ih e
theorem FsOk.snoc {fts : List (Str × Ty)} {fs : List (Str × V)} {S : Hp} (h : FsOk fts fs S) {f : Str} {T : Ty} {v : V} (hv : T.p v S) : fts.lookup f = none → FsOk (fts ++ [(f, T)]) (putF f v fs) S := by
  induction h with
  | nil => intro _; exact .cons hv .nil
  | @cons g U u fts fs S hu _ ih =>
    intro e
    by_cases hg : (f == g) = true
    · simp only [List.lookup, hg] at e
      cases e
    · have hg : (f == g) = false := by simpa using hg
      simp only [List.lookup, hg] at e
      have ne : ¬ g = f := fun z => by rw [z] at hg; simp at hg
      show FsOk _ (if g = f then _ else _) _
      rw [if_neg ne]
      exact .cons hu (ih hv e)
def tIns (C : Addr) (fts : List (Str × Ty)) : Ty := ⟨fun v S => ∃ a dx fs, v = .ref a ∧ S a = some (.ins C dx fs) ∧ FsOk fts fs S, fun e ⟨a, dx, fs, h1, h2, h3⟩ => ⟨a, dx, fs, h1, e _ _ h2, h3.m e⟩⟩
def oIn (C dx : Addr) (fts : List (Str × Ty)) : Own := ⟨fun _ S o => ∃ fs, o = .ins C dx fs ∧ FsOk fts fs S, fun e ⟨fs, h1, h2⟩ => ⟨fs, h1, h2.m e⟩, fun ⟨_, h, _⟩ => nomatch h⟩
theorem tRefly_ins {C : Addr} {fts : List (Str × Ty)} : tRefly (tIns C fts) := fun _ _ ⟨a, _, _, h, _⟩ => ⟨a, h⟩
section
variable {X : Cx} {S0 H0 : Hp} {O : Owns} {Γ Δ : Env} {D : Ends} {e a b c o : Expr} {es : List Expr} {rest body orelse : List Stmt} {T U R : Ty} {ts : List Ty} {pos pos' : Pos} {x f : Str} {i : Nat} {p C dx : Addr} {fts : List (Str × Ty)}
theorem proj_ins (c : Cls X.K C) (n : NoAttr X.K C f) (h : fts.lookup f = some T) : Proj X.K (tIns C fts) f T := fun v S ⟨a, dx, fs, h1, h2, h3⟩ => by
  obtain ⟨u, h4, h5⟩ := h3.get h
  exact ⟨a, C, dx, fs, u, h1, h2, c, n, h4, h5⟩
theorem bt_store (k : Nat) (hk : O[k]? = some (p, oIn C dx fts)) (c : Cls X.K C) (n : NoAttr X.K C f) (ho : ETy X O Γ o (tV (.ref p))) (he : ETy X O Γ e T) (hf : fts.lookup f = none) (hl : fts.length < 1000) (hr : BTy X S0 H0 (O.set k (p, oIn C dx (fts ++ [(f, T)]))) Γ rest D)
    (hs : swapsWith e (some (.Attribute o f pos')) pos.line X.env = pure false := by rfl) : BTy X S0 H0 O Γ (.Assign [.Attribute o f pos'] e pos :: rest) D := fun σ S H g g1 oo =>
  of_pss (pss_cons (ps_fld pe_w pe_w hs) pss_w) (he σ H0 S H _ g1 oo g.i fun w S1 H1 g2 hw => ho σ H0 S1 H1 _ (g1.m g2.s) (oo.grow g2) g2.i fun u S2 H2 g3 hu => by
    have hu : u = .ref p := hu
    subst hu
    have o2 := (oo.grow g2).grow g3
    obtain ⟨hF, hS, u, h5, fs, h6, h7⟩ := o2.at_ k _ _ hk
    subst h6
    have gg := (g.trans g2).trans g3
    refine ⟨p, C, dx, fs, rfl, h5, c, n, by rw [← h7.len]; exact hl, ?_⟩
    exact hr σ S2 _ (gg.store hF hS) ((g1.m g2.s).m g3.s) (o2.upd hk ⟨_, rfl, h7.snoc (T.m g3.s hw) hf⟩))
end
/-! ### __init__ -/
def spI {α : Type} (C : Addr) (A : α → List Ty) (Pre : α → Prop) (Fl : α → List (Str × Ty)) : Sp := fun vs H Q _ => ∃ (x : α) (S H0 : Hp) (a dx : Addr) (vs' : List V), vs = .ref a :: vs' ∧ Same S H0 ∧ H0 a = none ∧ H = upd H0 a (.ins C dx []) ∧ All2 (A x) vs' S ∧ Pre x ∧
  ∀ fs S' H', Grow S H0 S' H' → S' a = none → H' a = some (.ins C dx fs) → FsOk (Fl x) fs S' → Q .non H'
theorem fn_init {P : Program} {w : World} {K : PySem.W.Frag} {mg : Str → Option Value} {base : Heap} {nm qual : Str} {st : Stmt} {f : Addr} {fd : FuncData} {dV : List V} {kws : List (Str × V)} {N ps : List Str} {k : Nat} {α : Type} {C : Addr} {A : α → List Ty} {Pre : α → Prop} {Fl : α → List (Str × Ty)}
    (F : FunD K nm qual (defArgs st) (defBody st) (defScope st) dV kws f fd) (sc : FnScope N ps (defScope st)) (hA : ∀ x, (A x).length + 1 = ps.length)
    (body : ∀ (f : Addr) (cdv : Value) (Ar : Around) (outer : List PySem.Env) (s : Shared) (Hc : Hp) (E : XK) (x : α), Pre x → Room k (Ar.deeper (envOfC qual (defScope st) s.heap.objs.size f cdv)) → ∀ (S H0 : Hp) (p dx : Addr) (D : Ends), (∀ σ S' H', Grow S H0 S' H' → OwnOk [(p, oIn C dx (Fl x))] H0 S' H' → D.nx σ H') →
      BTy (Ct P w K mg base N qual st f cdv Ar outer s Hc E) S H0 [(p, oIn C dx [])] (some (tV (.ref p)) :: ((A x).map some ++ List.replicate (N.length - ((A x).length + 1)) none)) (defBody st) D) : FnOk P w K mg base CX0 (k + 1) f fd ps (spI C A Pre Fl) := by
  have hps : ps.length ≤ N.length := by have := congrArg List.length sc.pre; rw [List.length_take] at this; omega
  refine F.ok sc (fun vs H Q E ⟨x, S, H0, a, dx, vs', e, _, _, _, h, _⟩ => by rw [e, List.length_cons, ← h.len, hA]) fun cdv Ar outer s H vs Q E hr ⟨x, S, H0, a, dx, vs', e, i, h0, eH, h, pre, q⟩ => ?_
  subst e eH
  refine ⟨_, PSs.nox pss_w, ?_⟩
  have hS : S a = none := i.free h0
  have h2 : All2 (tV (.ref a) :: A x) (.ref a :: vs') S := .cons rfl h
  have e1 := env_start (N := N) h2 (by rw [List.length_cons, hA]; exact hps)
  exact body f cdv Ar outer s _ E x pre hr S H0 a dx { nx := fun _ H' => Q .non H', rt := Q } (fun _ S' H' g oo => by
    obtain ⟨_, hS', u, h3, fs, h4, h5⟩ := oo.at_ 0 _ _ rfl
    subst h4
    exact q fs S' H' g hS' h3 h5) (L2.start N (.ref a :: vs')) S (upd H0 a (.ins C dx [])) ((Grow.refl i).store h0 hS) e1 (OwnOk.nil.cons h0 hS h0 ⟨[], rfl, .nil⟩)
/-- a method, a def of a class -/
structure FnA (P : Program) (w : World) (K : PySem.W.Frag) (mg : Str → Option Value) (base : Heap) (f : Addr) (k : Nat) (ps : List Str) (sp : Sp) : Prop where
  ex : ∃ fd, Binds K fd ps [] ∧ FnOk P w K mg base CX0 k f fd ps sp
theorem fna_of {P : Program} {w : World} {K : PySem.W.Frag} {mg : Str → Option Value} {base : Heap} {nm qual : Str} {st : Stmt} {f : Addr} {N ps : List Str} {k : Nat} {α : Type} {A : α → List Ty} {Pre : α → Prop} {R : α → Ty}
    (F : ∃ fd, FunD K nm qual (defArgs st) (defBody st) (defScope st) [] [] f fd) (hb : ∀ (kV doc pm : Value) (an : Option Addr) (cdv ct : Value) (us : List Value), us.length = ps.length → bindArgs (PySem.W.fnOf nm qual (defArgs st) (defBody st) (defScope st) .none kV doc pm an cdv ct) ⟨us, []⟩ = pure (ps.zip us))
    (sc : FnScope N ps (defScope st)) (hA : ∀ x, (A x).length = ps.length)
    (body : ∀ (f : Addr) (cdv : Value) (Ar : Around) (outer : List PySem.Env) (s : Shared) (H : Hp) (E : XK) (x : α), Pre x → Room k (Ar.deeper (envOfC qual (defScope st) s.heap.objs.size f cdv)) → ∀ (S : Hp) (D : Ends), RetOk S H (R x) D.rt → (∀ σ H', D.nx σ H' = D.rt .non H') →
      BTy (Ct P w K mg base N qual st f cdv Ar outer s H E) S H [] ((A x).map some ++ List.replicate (N.length - (A x).length) none) (defBody st) D) : FnA P w K mg base f (k + 1) ps (spT A Pre R) := by
  obtain ⟨fd, F⟩ := F
  exact ⟨fd, F.bindsN hb, fn_ok F sc hA body⟩
theorem fna_init {P : Program} {w : World} {K : PySem.W.Frag} {mg : Str → Option Value} {base : Heap} {nm qual : Str} {st : Stmt} {f : Addr} {N ps : List Str} {k : Nat} {α : Type} {C : Addr} {A : α → List Ty} {Pre : α → Prop} {Fl : α → List (Str × Ty)}
    (F : ∃ fd, FunD K nm qual (defArgs st) (defBody st) (defScope st) [] [] f fd) (hb : ∀ (kV doc pm : Value) (an : Option Addr) (cdv ct : Value) (us : List Value), us.length = ps.length → bindArgs (PySem.W.fnOf nm qual (defArgs st) (defBody st) (defScope st) .none kV doc pm an cdv ct) ⟨us, []⟩ = pure (ps.zip us))
    (sc : FnScope N ps (defScope st)) (hA : ∀ x, (A x).length + 1 = ps.length)
    (body : ∀ (f : Addr) (cdv : Value) (Ar : Around) (outer : List PySem.Env) (s : Shared) (Hc : Hp) (E : XK) (x : α), Pre x → Room k (Ar.deeper (envOfC qual (defScope st) s.heap.objs.size f cdv)) → ∀ (S H0 : Hp) (p dx : Addr) (D : Ends), (∀ σ S' H', Grow S H0 S' H' → OwnOk [(p, oIn C dx (Fl x))] H0 S' H' → D.nx σ H') →
      BTy (Ct P w K mg base N qual st f cdv Ar outer s Hc E) S H0 [(p, oIn C dx [])] (some (tV (.ref p)) :: ((A x).map some ++ List.replicate (N.length - ((A x).length + 1)) none)) (defBody st) D) : FnA P w K mg base f (k + 1) ps (spI C A Pre Fl) := by
  obtain ⟨fd, F⟩ := F
  exact ⟨fd, F.bindsN hb, fn_init F sc hA body⟩
section
variable {X : Cx} {O : Owns} {Γ : Env} {e o : Expr} {es : List Expr} {p pos ap : Pos} {α : Type} {A : α → List Ty} {Pre : α → Prop} {R : α → Ty} {Fl : α → List (Str × Ty)} {nm m : Str} {k : Nat} {ps : List Str} {C f : Addr} {fts : List (Str × Ty)} {T : Ty}
/-- C(e, ..) -/
theorem et_make (M : Mk X.K C f) (F : FnA X.prog X.w X.K X.mg X.base f k ps (spI C A Pre Fl)) (hm : X.mg nm = some (.ref C)) (hr : Room (k + 1) X.A) (x : α) (pre : Pre x) (ha : ATy X O Γ (e :: es) (A x)) (hg : Gl X nm := by rfl) (hd : (nm == ("__debug__" : Str)) = false := by decide) (he : starEach (e :: es) X.env = (false, eval e X.env) :: starEach es X.env := by rfl)
    (hpl : (backTo pos (starEach es X.env)).any (·.1) = false := by rfl) : ETy X O Γ (.Call (.Name nm p) (e :: es) [] pos) (tIns C (Fl x)) := fun σ F0 S H Q g oo i q => by
  obtain ⟨fd, h4, h5⟩ := F.ex
  refine of_pe (pe_make M h5 hr hg hm h4 .nil pass0 pa_w hd he hpl) (ha σ F0 S H _ g oo i fun vs S1 H1 g1 t1 => fun y dx hy hdx hne => ?_)
  rw [List.append_nil]
  have n2 : upd H1 dx (.own y) y = none := by rw [upd_ne (Ne.symm hne)]; exact hy
  refine ⟨x, S1, upd H1 dx (.own y), y, dx, vs, rfl, fun b u e => ?_, n2, rfl, t1, pre, fun fs S' H' g2 hS' hH' ok => ⟨rfl, ?_⟩⟩
  · rw [upd_ne (ne_of_none (g1.i _ _ e) hdx)]; exact g1.i _ _ e
  · refine q (.ref y) (upd S' y (.ins C dx fs)) H' (g1.trans ⟨g2.s.trans (same_upd hS'), fun b u e => ?_, (same_upd hdx).trans g2.h, fun b u e n => ?_⟩) ⟨y, dx, fs, rfl, upd_same, ok.m (same_upd hS')⟩
    · by_cases hb : b = y
      · subst hb; rw [upd_same] at e; cases e; exact hH'
      · rw [upd_ne hb] at e; exact g2.i _ _ e
    · by_cases hb : b = y
      · rw [hb]; exact .inl hy
      · rw [upd_ne hb] at e
        exact (g2.f b u e n).back (same_upd hdx)
/-- o.m(e, ..) -/
theorem et_meth {pl : Sem Bool} (c : Cls X.K C) (hm : Meth X.K C m f) (F : FnA X.prog X.w X.K X.mg X.base f k ps (spT A Pre R)) (hr : Room k X.A) (x : α) {ts : List Ty} (pre : Pre x) (hA : A x = tIns C fts :: ts) (ho : ETy X O Γ o (tIns C fts)) (hn : fts.lookup m = none) (ha : ATy X O Γ (e :: es) ts)
    (hst : starEach (e :: es) X.env = (false, eval e X.env) :: starEach es X.env := by rfl) (hpl : (backTo pos (starEach es X.env)).any (·.1) = false := by rfl)
    (ht : eval (.Call (.Attribute o m ap) (e :: es) [] pos) X.env = (do
      let ov ← eval o X.env
      standAt ap.atName
      let (f, first) ← holding [ov] (getMethod ov m pl)
      callWith pos f first (backTo pos (starEach (e :: es) X.env)) (backToKw pos (keywordEach [] X.env))) := by rfl) : ETy X O Γ (.Call (.Attribute o m ap) (e :: es) [] pos) (R x) := fun σ F0 S H Q g oo i q => by
  obtain ⟨fd, h4, h5⟩ := F.ex
  refine of_pe (pe_meth pe_w c hm h5 hr h4 .nil pass0 pa_w hst hpl ht) (ho σ F0 S H _ g oo i fun v S1 H1 g1 ⟨a, dx, fs, e1, e2, e3⟩ => ⟨a, dx, fs, e1, g1.i _ _ e2, e3.no hn, ?_⟩)
  refine ha σ F0 S1 H1 _ (g.m g1.s) (oo.grow g1) g1.i fun vs S2 H2 g2 t2 => ?_
  rw [List.append_nil]
  exact ⟨x, S2, g2.i, by rw [hA]; exact .cons ⟨a, dx, fs, e1, g2.s _ _ e2, e3.m g2.s⟩ t2, pre, fun v S' H' g3 t3 => q v S' H' ((g1.trans g2).trans g3) t3⟩
theorem et_meth0 {pl : Sem Bool} (c : Cls X.K C) (hm : Meth X.K C m f) (F : FnA X.prog X.w X.K X.mg X.base f k ps (spT A Pre R)) (hr : Room k X.A) (x : α) (pre : Pre x) (hA : A x = [tIns C fts]) (ho : ETy X O Γ o (tIns C fts)) (hn : fts.lookup m = none)
    (ht : eval (.Call (.Attribute o m ap) [] [] pos) X.env = (do
      let ov ← eval o X.env
      standAt ap.atName
      let (f, first) ← holding [ov] (getMethod ov m pl)
      callWith pos f first (backTo pos (starEach [] X.env)) (backToKw pos (keywordEach [] X.env))) := by rfl) : ETy X O Γ (.Call (.Attribute o m ap) [] [] pos) (R x) := fun σ F0 S H Q g oo i q => by
  obtain ⟨fd, h4, h5⟩ := F.ex
  refine of_pe (pe_meth0 pe_w c hm h5 hr h4 .nil pass0 ht) (ho σ F0 S H _ g oo i fun v S1 H1 g1 ⟨a, dx, fs, e1, e2, e3⟩ => ⟨a, dx, fs, e1, g1.i _ _ e2, e3.no hn, ?_⟩)
  exact ⟨x, S1, g1.i, by rw [hA]; exact .cons ⟨a, dx, fs, e1, e2, e3⟩ .nil, pre, fun v S' H' g3 t3 => q v S' H' (g1.trans g3) t3⟩
/-- o.f, a property -/
theorem et_prop {g' pp : Addr} (c : Cls X.K C) (hp : PropOf X.K C m pp g') (F : FnA X.prog X.w X.K X.mg X.base g' k ps (spT A Pre R)) (hr : Room (k + 1) X.A) (x : α) (pre : Pre x) (hA : A x = [tIns C fts]) (ho : ETy X O Γ o (tIns C fts)) (hb : attributeBase o m X.env (eval o X.env) = eval o X.env := by rfl) : ETy X O Γ (.Attribute o m pos) (R x) := fun σ F0 S H Q g oo i q => by
  obtain ⟨fd, h4, h5⟩ := F.ex
  refine of_pe (pe_prop pe_w c hp h5 hr h4 .nil pass0 hb) (ho σ F0 S H _ g oo i fun v S1 H1 g1 ⟨a, dx, fs, e1, e2, e3⟩ => ⟨a, dx, fs, e1, g1.i _ _ e2, ?_⟩)
  subst e1
  exact ⟨x, S1, g1.i, by rw [hA]; exact .cons ⟨a, dx, fs, rfl, e2, e3⟩ .nil, pre, fun v S' H' g3 t3 => q v S' H' (g1.trans g3) t3⟩
/-- len(o) of an own class -/
theorem call_lenI {E : XK} {sp : Sp} {fd : FuncData} (c : Cls X.K C) (hm : Meth X.K C "__len__" f) (F : FnOk X.prog X.w X.K X.mg X.base CX0 k f fd ps sp) (hr : Room (k + 1) X.A) (hb : Binds X.K fd ps []) :
    CallR X (.builtin "len") (fun xs H Q => ∃ a dx fs, xs = [.ref a] ∧ H a = some (.ins C dx fs) ∧ sp [.ref a] H (fun v H2 => ∃ n : Int, v = .int n ∧ 0 ≤ n ∧ n < 2 ^ 63 ∧ Q (.int n) H2) E) := by
  intro pins s σ H xs us Q I r h
  obtain ⟨a, dx, fs, rfl, ea, h⟩ := h
  obtain ⟨u, rfl, ru⟩ := r.one
  obtain rfl : u = Value.ref a := ru
  obtain ⟨mA, O, _, _, _, _⟩ := ins_get I.hok ea
  obtain ⟨od, J, _⟩ := O.look
  obtain ⟨m, hF⟩ := I.fr
  have hl : ([Value.ref a] ++ []).length = ps.length := by
    rw [← F.len _ _ _ _ h]
    rfl
  refine PySem.W.len_K hF I.ok.mod.kin J hm.at_ hm.fn (wpAny_call (codeAny_mono (F.run X.A.in1 X.stack s H ⟨[.ref a], []⟩ [.ref a] [.ref a] _ E hr.in1 I.env0.in1 (hb s [.ref a] I.kIn hl) (.cons rfl .nil) h) fun r s' hq => ?_))
  cases r with
  | error er => exact (pass0 (X := X) pins σ H s er s' I hq)
  | ok fl =>
    cases fl with
    | ret u =>
      obtain ⟨v, H', I3, rv, n, rfl, h0, h1, q3⟩ := I.after hq
      obtain ⟨t, rfl⟩ := rv
      exact ⟨⟨h0, h1⟩, .int n, H', I3.tok _, ⟨_, rfl⟩, q3⟩
    | next => exact False.elim hq
    | brk => exact False.elim hq
    | cont => exact False.elim hq
theorem et_lenI {n : Int} (c : Cls X.K C) (hm : Meth X.K C "__len__" f) (F : FnA X.prog X.w X.K X.mg X.base f k ps (spT A Pre R)) (hr : Room (k + 1) X.A) (x : α) (pre : Pre x) (hA : A x = [tIns C fts]) (hR : R x = tI n) (h0 : 0 ≤ n ∧ n < 2 ^ 63) (ha : ETy X O Γ e (tIns C fts))
    (hml : X.mg "len" = none) (hg : Gl X "len" := by rfl) (hs : starEach (e :: []) X.env = (false, eval e X.env) :: starEach [] X.env := by rfl) (hpl : (backTo pos (starEach [] X.env)).any (·.1) = false := by rfl) : ETy X O Γ (.Call (.Name "len" p) [e] [] pos) (tI n) := fun σ F0 S H Q g oo i q => by
  obtain ⟨fd, h4, h5⟩ := F.ex
  refine of_pe (pe_callB (call_lenI (E := fun _ _ _ => False) c hm h5 hr h4) hg hml PySem.boot_len pa_w (by decide) (by decide) hs hpl) (at_one ha hs σ F0 S H _ g oo i fun vs S1 H1 g1 t1 => ?_)
  obtain ⟨u, rfl, a, dx, fs, e1, e2, e3⟩ := all2_1 t1
  subst e1
  refine ⟨a, dx, fs, rfl, g1.i _ _ e2, x, S1, g1.i, by rw [hA]; exact .cons ⟨a, dx, fs, rfl, e2, e3⟩ .nil, pre, fun v S' H' g3 t3 => ?_⟩
  rw [hR] at t3
  have t3 : v = .int n := t3
  subst t3
  exact ⟨n, rfl, h0.1, h0.2, q _ S' H' (g1.trans g3) rfl⟩
end
end K79
set_option Elab.async false
set_option linter.all false
set_option maxRecDepth 100000
/-! D6: lines: made, their length, backward, grown, shifted. -/
namespace K79
open PySem L2
open PyProof.Rows (envOfC)
theorem num_pos {q : Rat} (h : 0 < q) : 0 < q.num := by
  have := (Rat.lt_iff 0 q).mp h
  simpa using this
/-- a line: lengths, marks -/
structure Ln where
  ls : List Rat
  ms : List Rat
structure LnOk (c : Nat) (L : Ln) : Prop where
  len : L.ls.length = L.ms.length
  l1 : 1 ≤ L.ls.length
  l24 : L.ls.length ≤ 24
  pos : ∀ q ∈ L.ls, 0 < q
  up : L.ms.Pairwise (· < ·)
  zl : ∀ q ∈ L.ls, Sz c q
  zm : ∀ q ∈ L.ms, Sz c q
theorem LnOk.mono {c d : Nat} {L : Ln} (h : LnOk c L) (hd : c ≤ d) : LnOk d L := ⟨h.len, h.l1, h.l24, h.pos, h.up, fun q z => (h.zl q z).mono hd, fun q z => (h.zm q z).mono hd⟩
def Ln.back (L : Ln) : Ln := ⟨L.ls.reverse, L.ms.reverse.map fun q => -q⟩
def Ln.grow (L : Ln) (s : Rat) : Ln := ⟨L.ls.map (· * s), L.ms.map (· * s)⟩
def Ln.shift (L : Ln) (t : Rat) : Ln := ⟨L.ls, L.ms.map (· + t)⟩
theorem LnOk.back {c : Nat} {L : Ln} (h : LnOk c L) : LnOk c L.back := by
  refine ⟨by simp [Ln.back, h.len], by simpa [Ln.back] using h.l1, by simpa [Ln.back] using h.l24, fun q hq => h.pos q (by simpa [Ln.back] using hq), ?_, fun q hq => h.zl q (by simpa [Ln.back] using hq), fun q hq => ?_⟩
  · show (L.ms.reverse.map fun q => -q).Pairwise (· < ·)
    rw [List.pairwise_map, List.pairwise_reverse]
    exact h.up.imp fun {a b} z => by grind
  · obtain ⟨r, hr, rfl⟩ := List.mem_map.mp (show q ∈ L.ms.reverse.map fun q => -q from hq)
    exact (h.zm r (by simpa using hr)).neg
theorem LnOk.grow {c m : Nat} {L : Ln} {s : Rat} (h : LnOk c L) (hs : 0 < s) (z : Sz m s) : LnOk (c + m) (L.grow s) := by
  refine ⟨by simp [Ln.grow, h.len], by simpa [Ln.grow] using h.l1, by simpa [Ln.grow] using h.l24, fun q hq => ?_, ?_, fun q hq => ?_, fun q hq => ?_⟩
  · obtain ⟨r, hr, rfl⟩ := List.mem_map.mp (show q ∈ L.ls.map (· * s) from hq)
    exact Rat.mul_pos (h.pos r hr) hs
  · show (L.ms.map (· * s)).Pairwise (· < ·)
    rw [List.pairwise_map]
    exact h.up.imp fun {a b} z => Rat.mul_lt_mul_of_pos_right z hs
  · obtain ⟨r, hr, rfl⟩ := List.mem_map.mp (show q ∈ L.ls.map (· * s) from hq)
    exact (h.zl r hr).mul z
  · obtain ⟨r, hr, rfl⟩ := List.mem_map.mp (show q ∈ L.ms.map (· * s) from hq)
    exact (h.zm r hr).mul z
theorem LnOk.shift {c m : Nat} {L : Ln} {t : Rat} (h : LnOk c L) (z : Sz m t) : LnOk (c + m + 1) (L.shift t) := by
  refine ⟨by simp [Ln.shift, h.len], h.l1, h.l24, h.pos, ?_, fun q hq => (h.zl q hq).mono (by omega), fun q hq => ?_⟩
  · show (L.ms.map (· + t)).Pairwise (· < ·)
    rw [List.pairwise_map]
    exact h.up.imp fun {a b} z => by grind
  · obtain ⟨r, hr, rfl⟩ := List.mem_map.mp (show q ∈ L.ms.map (· + t) from hq)
    exact (h.zm r hr).add z
def tQs (K : PySem.W.Frag) (l : List Rat) : Ty := tTup K (l.map (tQ K))
def tQS (K : PySem.W.Frag) (l : List Rat) : Ty := tSeq K (l.map (tQ K))
theorem tQs_S {K : PySem.W.Frag} {l : List Rat} : (tQs K l).le (tQS K l) := tTup_seq
theorem tQl_S {K : PySem.W.Frag} {l : List Rat} : (tLst K (l.map (tQ K))).le (tQS K l) := tLst_seq
section
variable {P : Program} {w : World} {K : PySem.W.Frag} {mg : Str → Option Value} {base : Heap}
abbrev lineF (K : PySem.W.Frag) (L : Ln) : List (Str × Ty) := [("lengths", tQs K L.ls), ("marks", tQs K L.ms)]
abbrev tLine (K : PySem.W.Frag) (L : Ln) : Ty := tIns (He.ga K "Line") (lineF K L)
abbrev OkLn (L : Ln) : Prop := ∃ c, LnOk c L ∧ c ≤ 4000
/-! ### check_lengths -/
abbrev spCheckLen (K : PySem.W.Frag) : Sp := spT (α := Ln) (fun L => [tQS K L.ls, tQS K L.ms]) OkLn (fun L => tTup K [tQs K L.ls, tQs K L.ms])
theorem sc_checkLen : FnScope ["lengths", "marks", "row", "number"] ["lengths", "marks"] (defScope sCheckLengths) := ⟨rfl, rfl, rfl, by decide +kernel, rfl, by decide +kernel, by decide +kernel⟩
theorem cmp_lt {a b : Rat} (h : a < b) : cmpQ a b = -1 := by unfold cmpQ; rw [if_pos h]
theorem fn_checkLen (T : Txt K mg) : Fn P w K mg base "check_lengths" 3 ["lengths", "marks"] [] (spCheckLen K) := by
  refine fn_of' (st := sCheckLengths) T.d_check_lengths (fun _ _ _ _ _ _ us h => match us, h with | [_, _], _ => rfl) sc_checkLen (fun _ => rfl) fun f cdv Ar outer s H E L pre hr S D hR _ => ?_
  obtain ⟨c, ok, hc⟩ := pre
  have nd := sc_checkLen.nd
  have hlen := ok.len
  have l1 := ok.l1
  have l24 := ok.l24
  show BTy _ _ _ _ [some (tQS K L.ls), some (tQS K L.ms), none, none] _ _
  refine bt_forT (ts := [tQS K L.ls, tQS K L.ms]) 2 (fun _ => [some (tQS K L.ls), some (tQS K L.ms), none, none]) (fun _ => []) nd PassesOwn.never (et_tup (at_cons (et_var 0) (at_one (et_var 1)))) (.refl _) rfl (fun S1 H1 g n U hU => ?_) ?_
  · obtain ⟨l, rfl, hl⟩ : ∃ l, U = tQS K l ∧ l.length = L.ls.length := by
      match n, hU with
      | 0, h => cases h; exact ⟨_, rfl, rfl⟩
      | 1, h => cases h; exact ⟨_, rfl, hlen.symm⟩
      | n + 2, h => cases h
    refine bt_no (tt_w (wt_or2 (tt_not (tt_val (et_isiS T.f_isinstance T.f_list T.f_tuple (et_var 2)))) (fun _ => wt_or1 (tt_not (tt_chain et_int (et_lenS T.f_len (et_var 2)) (et_intG T.i_MOST_SECTIONS)))))) ?_ ?_
    · rw [List.length_map, hl, decide_eq_true (by omega), decide_eq_true (by omega)]
      rfl
    · exact bt_turn (fun _ _ h => h) (el_eq (el_eq (el_no (el_no el_nil))))
  refine bt_no (tt_ne (et_lenS T.f_len (et_var 0)) (et_lenS T.f_len (et_var 1))) (by rw [List.length_map, List.length_map, hlen]; simp) ?_
  refine bt_forR 3 L.ls.length (fun _ => [some (tQS K L.ls), some (tQS K L.ms), none, none]) (fun _ => []) nd PassesOwn.never T.f_range (et_eq (et_lenS T.f_len (et_var 0)) (by rw [List.length_map])) (by omega) (.refl _) rfl (fun S1 H1 g n hn => ?_) ?_
  · have e1 : L.ls[n]? = some L.ls[n] := List.getElem?_eq_getElem hn
    have e2 : L.ms[n]? = some (L.ms[n]'(by omega)) := List.getElem?_eq_getElem (by omega)
    have p1 := ok.pos _ (List.getElem_mem hn)
    refine bt_no (tt_w (wt_or2 (tt_not (tt_val (et_call (x := L.ls[n]) (fn_isRatio T) hr trivial (at_one (et_ixS (et_var 0) (et_var 3) rfl (map_at e1)))))) (fun _ => wt_or1 (tt_le (et_q0 (et_ixS (et_var 0) (et_var 3) rfl (map_at e1))) et_int)))) ?_ ?_
    · have : 0 < L.ls[n].num := num_pos p1
      show (!true || decide (L.ls[n].num ≤ 0)) = false
      rw [decide_eq_false (by omega)]
      rfl
    refine bt_no (tt_not (tt_val (et_call (x := L.ms[n]'(by omega)) (fn_isRatio T) hr trivial (at_one (et_ixS (et_var 1) (et_var 3) rfl (map_at e2)))))) rfl ?_
    refine bt_no (k := false) (tt_eq (tt_w (wt_and2 (k := decide (0 < (n : Int))) (l := false) (tt_gt (et_var 3) et_int) (fun hp => ?_))) (by simp)) rfl ?_
    · have hp : 0 < n := by have := of_decide_eq_true hp; omega
      have e3 : L.ms[n - 1]? = some (L.ms[n - 1]'(by omega)) := List.getElem?_eq_getElem (by omega)
      have lt : L.ms[n - 1]'(by omega) < L.ms[n]'(by omega) := List.pairwise_iff_getElem.mp ok.up (n - 1) n (by omega) (by omega) (by omega)
      refine wt_and1 (tt_eq (tt_ge (et_call (x := (L.ms[n - 1]'(by omega), L.ms[n]'(by omega))) (fn_compare T) (hr.mono (by decide)) ⟨c, c, ok.zm _ (List.getElem_mem _), ok.zm _ (List.getElem_mem _), by omega⟩ (at_cons (et_ixS (k := n - 1) (et_var 1) (et_sub (et_var 3) et_int) (by omega) (map_at e3)) (at_one (et_ixS (et_var 1) (et_var 3) rfl (map_at e2))))) et_int) ?_)
      show decide ((0 : Int) ≤ cmpQ _ _) = false
      rw [cmp_lt lt]
      rfl
    · exact bt_turn (fun _ _ h => h) (el_eq (el_eq (el_no (el_no el_nil))))
  · exact bt_ret (et_tup (at_cons (et_tupleS T.f_tuple (et_var 0)) (at_one (et_tupleS T.f_tuple (et_var 1))))) hR
/-! ### Line -/
abbrev lineI (K : PySem.W.Frag) : Addr := He.ma K (He.ga K "Line") "__init__"
theorem sc_lineInit : FnScope ["self", "lengths", "marks", "kept", "told"] ["self", "lengths", "marks"] (defScope sLineInit) := ⟨rfl, rfl, rfl, by decide +kernel, rfl, by decide +kernel, by decide +kernel⟩
theorem fn_lineInit (T : Txt K mg) : FnA P w K mg base (lineI K) 4 ["self", "lengths", "marks"] (spI (α := Ln) (He.ga K "Line") (fun L => [tQS K L.ls, tQS K L.ms]) OkLn (lineF K)) := by
  refine fna_init (st := sLineInit) T.d_Line___init__ (fun _ _ _ _ _ _ us h => match us, h with | [_, _, _], _ => rfl) sc_lineInit (fun _ => rfl) fun f cdv Ar outer s Hc E L pre hr S H0 p dx D hend => ?_
  have nd := sc_lineInit.nd
  show BTy _ _ _ _ [some (tV (.ref p)), some (tQS K L.ls), some (tQS K L.ms), none, none] _ _
  refine bt_un2 (T := tQs K L.ls) (U := tQs K L.ms) 3 4 nd (et_call (x := L) (fn_checkLen T) hr pre (at_cons (et_var 1) (at_one (et_var 2)))) ?_
  refine bt_store 0 rfl T.clsLine T.no_lengths (et_var 0) (et_var 3) rfl (by decide) ?_
  refine bt_store 0 rfl T.clsLine T.no_marks (et_var 0) (et_var 4) rfl (by show 1 < 1000; decide) ?_
  exact bt_nil fun σ S' H' g _ oo => hend σ S' H' g oo
theorem et_line {X : Cx} {O : Owns} {Γ : Env} {a b : Expr} {p pos : Pos} {L : Ln} (T : Txt X.K X.mg) (hr : Room 5 X.A) (pre : OkLn L) (ha : ETy X O Γ a (tQS X.K L.ls)) (hb : ETy X O Γ b (tQS X.K L.ms)) (hg : Gl X "Line" := by rfl) (h1 : starEach (a :: b :: []) X.env = (false, eval a X.env) :: starEach (b :: []) X.env := by rfl) (h2 : starEach (b :: []) X.env = (false, eval b X.env) :: starEach [] X.env := by rfl) (hpl : (backTo pos (starEach [b] X.env)).any (·.1) = false := by rfl) :
    ETy X O Γ (.Call (.Name "Line" p) [a, b] [] pos) (tLine X.K L) := et_make T.mkLine (fn_lineInit T) T.g_Line hr L pre (at_cons ha (at_one hb h2) h1) hg (by decide) h1 hpl
theorem et_lengths {X : Cx} {O : Owns} {Γ : Env} {a : Expr} {pos : Pos} {L : Ln} (T : Txt X.K X.mg) (ha : ETy X O Γ a (tLine X.K L)) (hb : attributeBase a "lengths" X.env (eval a X.env) = eval a X.env := by rfl) : ETy X O Γ (.Attribute a "lengths" pos) (tQs X.K L.ls) := et_fld ha (proj_ins T.clsLine T.no_lengths rfl) hb
theorem et_marks {X : Cx} {O : Owns} {Γ : Env} {a : Expr} {pos : Pos} {L : Ln} (T : Txt X.K X.mg) (ha : ETy X O Γ a (tLine X.K L)) (hb : attributeBase a "marks" X.env (eval a X.env) = eval a X.env := by rfl) : ETy X O Γ (.Attribute a "marks" pos) (tQs X.K L.ms) := et_fld ha (proj_ins T.clsLine T.no_marks rfl) hb
/-! len -/
abbrev spLineLen (K : PySem.W.Frag) : Sp := spT (α := Ln) (fun L => [tLine K L]) (fun _ => True) (fun L => tI (L.ls.length : Nat))
theorem sc_lineLen : FnScope ["self"] ["self"] (defScope sLineLen) := ⟨rfl, rfl, rfl, by decide +kernel, rfl, by decide +kernel, by decide +kernel⟩
theorem fn_lineLen (T : Txt K mg) : FnA P w K mg base (He.ma K (He.ga K "Line") "__len__") 1 ["self"] (spLineLen K) := by
  refine fna_of (st := sLineLen) T.d_Line___len__ (fun _ _ _ _ _ _ us h => match us, h with | [_], _ => rfl) sc_lineLen (fun _ => rfl) fun f cdv Ar outer s H E L pre hr S D hR _ => ?_
  show BTy _ _ _ _ [some (tLine K L)] _ _
  exact bt_ret (et_eq (et_lenT T.f_len (et_lengths T (et_var 0))) (by rw [List.length_map])) hR
theorem et_lenLine {X : Cx} {O : Owns} {Γ : Env} {a : Expr} {p pos : Pos} {L : Ln} (T : Txt X.K X.mg) (hr : Room 2 X.A) (h : L.ls.length ≤ 24) (ha : ETy X O Γ a (tLine X.K L)) (hg : Gl X "len" := by rfl) (hs : starEach (a :: []) X.env = (false, eval a X.env) :: starEach [] X.env := by rfl) (hpl : (backTo pos (starEach [] X.env)).any (·.1) = false := by rfl) : ETy X O Γ (.Call (.Name "len" p) [a] [] pos) (tI (L.ls.length : Nat)) :=
  et_lenI T.clsLine T.m___len__ (fn_lineLen T) hr L trivial rfl rfl ⟨by omega, by omega⟩ ha T.f_len hg hs hpl
/-! backward, grown, shifted -/
abbrev nBackL : List Str := ["self", "mark"]
theorem sc_lineBack : FnScope nBackL ["self"] (defScope sLineBackward) := ⟨rfl, rfl, rfl, by decide +kernel, rfl, by decide +kernel, by decide +kernel⟩
theorem fn_lineBack (T : Txt K mg) : FnA P w K mg base (He.ma K (He.ga K "Line") "backward") 6 ["self"] (spT (α := Ln) (fun L => [tLine K L]) OkLn (fun L => tLine K L.back)) := by
  refine fna_of (st := sLineBackward) T.d_Line_backward (fun _ _ _ _ _ _ us h => match us, h with | [_], _ => rfl) sc_lineBack (fun _ => rfl) fun f cdv Ar outer s H E L pre hr S D hR _ => ?_
  obtain ⟨c, ok, hc⟩ := pre
  have nd := sc_lineBack.nd
  show BTy _ _ _ _ [some (tLine K L), none] _ _
  refine bt_ret (et_line (L := L.back) T hr ⟨c, ok.back, hc⟩ (et_le (et_eq (et_revT (et_lengths T (et_var 0))) (by show tTup K (L.ls.map (tQ K)).reverse = tQs K L.ls.reverse; rw [← List.map_reverse]; rfl)) tQs_S) (et_le (et_eq (et_lcT (x := "mark") (k := 1) ⟨nd, blkOk_by (own := [("mark", 1)]) (N := nBackL) (sc := defScope sLineBackward) (by decide +kernel), rfl, rfl⟩ L.ms.reverse (tQ K) (fun q => tQ K (-q)) (fun _ => true) (et_eq (et_revT (et_marks T (et_var 0))) (by rw [← List.map_reverse]; rfl)) (by have := ok.len; have := ok.l24; simp; omega) (fun y _ => ifs_nil) (fun y _ _ s0 H0 C cl fp => et_call (x := y) (fn_negative T) (hr.mono (by decide)) trivial (at_one (et_var 1)))) (congrArg (tLst K) (map_map_ty (f := tQ K) (g := fun q => -q) L.ms.reverse))) tQl_S)) hR
abbrev nGrown : List Str := ["self", "size", "one"]
theorem sc_lineGrown : FnScope nGrown ["self", "size"] (defScope sLineGrown) := ⟨rfl, rfl, rfl, by decide +kernel, rfl, by decide +kernel, by decide +kernel⟩
theorem fn_lineGrown (T : Txt K mg) : FnA P w K mg base (He.ma K (He.ga K "Line") "grown") 6 ["self", "size"] (spT (α := Ln × Rat) (fun x => [tLine K x.1, tQ K x.2]) (fun x => 0 < x.2 ∧ ∃ c, LnOk c x.1 ∧ Sz c x.2 ∧ 2 * c ≤ 4000) (fun x => tLine K (x.1.grow x.2))) := by
  refine fna_of (st := sLineGrown) T.d_Line_grown (fun _ _ _ _ _ _ us h => match us, h with | [_, _], _ => rfl) sc_lineGrown (fun _ => rfl) fun f cdv Ar outer s H E x pre hr S D hR _ => ?_
  obtain ⟨L, z⟩ := x
  obtain ⟨hz, c, ok, zs, hc⟩ : 0 < z ∧ ∃ c, LnOk c L ∧ Sz c z ∧ 2 * c ≤ 4000 := pre
  have nd := sc_lineGrown.nd
  have hlen := ok.len
  have l24 := ok.l24
  show BTy _ _ _ _ [some (tLine K L), some (tQ K z), none] _ _
  refine bt_no (tt_w (wt_or2 (tt_not (tt_val (et_call (x := z) (fn_isRatio T) (hr.mono (by decide)) trivial (at_one (et_var 1))))) (fun _ => wt_or1 (tt_le (et_q0 (et_var 1)) et_int)))) ?_ ?_
  · have : 0 < z.num := num_pos hz
    show (!true || decide (z.num ≤ 0)) = false
    rw [decide_eq_false (by omega)]
    rfl
  refine bt_ret (et_line (L := L.grow z) T hr ⟨c + c, ok.grow hz zs, by omega⟩ (et_le (et_eq (et_lcT (x := "one") (k := 2) ⟨nd, blkOk_by (own := [("one", 2)]) (N := nGrown) (sc := defScope sLineGrown) (by decide +kernel), rfl, rfl⟩ L.ls (tQ K) (fun q => tQ K (q * z)) (fun _ => true) (et_lengths T (et_var 0)) (by omega) (fun y _ => ifs_nil) (fun y hy _ s0 H0 C cl fp => et_call (x := (y, z)) (fn_times T) (hr.mono (by decide)) ⟨c, c, ok.zl y hy, zs, by omega⟩ (at_cons (et_var 2) (at_one (et_var 1))))) (congrArg (tLst K) (map_map_ty (f := tQ K) (g := fun q => q * z) L.ls))) tQl_S) (et_le (et_eq (et_lcT (x := "one") (k := 2) ⟨nd, blkOk_by (own := [("one", 2)]) (N := nGrown) (sc := defScope sLineGrown) (by decide +kernel), rfl, rfl⟩ L.ms (tQ K) (fun q => tQ K (q * z)) (fun _ => true) (et_marks T (et_var 0)) (by omega) (fun y _ => ifs_nil) (fun y hy _ s0 H0 C cl fp => et_call (x := (y, z)) (fn_times T) (hr.mono (by decide)) ⟨c, c, ok.zm y hy, zs, by omega⟩ (at_cons (et_var 2) (at_one (et_var 1))))) (congrArg (tLst K) (map_map_ty (f := tQ K) (g := fun q => q * z) L.ms))) tQl_S)) hR
abbrev nShift : List Str := ["self", "step", "one"]
theorem sc_lineShift : FnScope nShift ["self", "step"] (defScope sLineShifted) := ⟨rfl, rfl, rfl, by decide +kernel, rfl, by decide +kernel, by decide +kernel⟩
theorem fn_lineShift (T : Txt K mg) : FnA P w K mg base (He.ma K (He.ga K "Line") "shifted") 6 ["self", "step"] (spT (α := Ln × Rat) (fun x => [tLine K x.1, tQ K x.2]) (fun x => ∃ c, LnOk c x.1 ∧ Sz c x.2 ∧ 2 * c + 1 ≤ 4000) (fun x => tLine K (x.1.shift x.2))) := by
  refine fna_of (st := sLineShifted) T.d_Line_shifted (fun _ _ _ _ _ _ us h => match us, h with | [_, _], _ => rfl) sc_lineShift (fun _ => rfl) fun f cdv Ar outer s H E x pre hr S D hR _ => ?_
  obtain ⟨L, z⟩ := x
  obtain ⟨c, ok, zs, hc⟩ : ∃ c, LnOk c L ∧ Sz c z ∧ 2 * c + 1 ≤ 4000 := pre
  have nd := sc_lineShift.nd
  have hlen := ok.len
  have l24 := ok.l24
  show BTy _ _ _ _ [some (tLine K L), some (tQ K z), none] _ _
  refine bt_no (tt_not (tt_val (et_call (x := z) (fn_isRatio T) (hr.mono (by decide)) trivial (at_one (et_var 1))))) rfl ?_
  refine bt_ret (et_line (L := L.shift z) T hr ⟨c + c + 1, ok.shift zs, by omega⟩ (et_le (et_lengths (L := L) T (et_var 0)) tQs_S) (et_le (et_eq (et_lcT (x := "one") (k := 2) ⟨nd, blkOk_by (own := [("one", 2)]) (N := nShift) (sc := defScope sLineShifted) (by decide +kernel), rfl, rfl⟩ L.ms (tQ K) (fun q => tQ K (q + z)) (fun _ => true) (et_marks T (et_var 0)) (by omega) (fun y _ => ifs_nil) (fun y hy _ s0 H0 C cl fp => et_call (x := (y, z)) (fn_plus T) (hr.mono (by decide)) ⟨c, c, ok.zm y hy, zs, by omega⟩ (at_cons (et_var 2) (at_one (et_var 1))))) (congrArg (tLst K) (map_map_ty (f := tQ K) (g := fun q => q + z) L.ms))) tQl_S)) hR
end
end K79
set_option Elab.async false
set_option linter.all false
set_option maxRecDepth 100000
/-! KR: enumerate of a tuple; for and comprehensions over enumerate. -/
namespace PySem
open Sem (wp)
set_option maxHeartbeats 1000000 in
theorem k79_enumerate_new {v : Value} {o : Obj} {H : Heap → Prop} (B : Begins v o H) :
    Meets (Builtin.«enumerate.__new__» ⟨[.type "enumerate", v], []⟩) (fun _ R s => H s.heap ∧
      R (.ok (.ret (.ref (s.heap.push o).objs.size))) { s with heap := (s.heap.push o).push { cls := .type "enumerate", data := .fields #[.none, .bool false, .ref s.heap.objs.size, rawInt 0, .none, .none] } }) :=
  .of_wp fun prog w A R s h => by
    obtain ⟨hp, g, d, tk, os⟩ := s; obtain ⟨h1, h⟩ := h
    have hsub := sub_enumerate
    have q1 : ∀ {A' : Around} {E : Value → Shared → Prop} {Q : Value → Shared → Prop}, Q (.ref hp.objs.size) ⟨hp.push o, g, d, tk, os⟩ → wpAny (model prog w) A' (pyIter v) Q E ⟨hp, g, d, tk, os⟩ :=
      fun q => B.iter prog w _ _ ⟨hp, g, d, tk, os⟩ _ h1 q
    wp_walk using q1
    refine wpAny_stack_any fun st => wpAny_pure ?_
    split
    · rename_i c _ _ _ _ _
      cases (c == Value.type "enumerate")
      · wp_walk using q1
        exact ⟨_, rfl, h⟩
      · wp_walk using q1
        exact ⟨_, rfl, h⟩
    · wp_walk using q1
      exact ⟨_, rfl, h⟩
theorem k79_call_enumerate {prog : Program} {w : World} {A : Around} {E : Value → Shared → Prop} {s : Shared} {v : Value} {o : Obj} {H : Heap → Prop} {Q : Value → Shared → Prop} (B : Begins v o H) (h1 : H s.heap)
    (h : ∀ h', IsEnum h' (s.heap.objs.size + 1) s.heap.objs.size 0 .none → h'.get? s.heap.objs.size = some o → h'.objs.size = s.heap.objs.size + 2 →
      (∀ b o, s.heap.get? b = some o → h'.get? b = some o) → Q (.ref (s.heap.objs.size + 1)) { s with heap := h' }) :
    wpAny (model prog w) A (call (.type "enumerate") [v]) Q E s := by
  refine callType_new F.called_enumerate (by decide) (F.typeCall_enumerate_1 _) (F.newCall_enumerate_1 _) (fun obj => F.args_object_init_2 obj _) F.entry_enumerate_new
    (k79_enumerate_new B) ⟨h1, ?_⟩
  have hz : (s.heap.push o).objs.size = s.heap.objs.size + 1 := Heap.size_push ..
  show _ ∧ _
  rw [hz]
  have he : IsEnum ((s.heap.push o).push { cls := .type "enumerate", data := .fields #[.none, .bool false, .ref s.heap.objs.size, rawInt 0, .none, .none] }) (s.heap.objs.size + 1) s.heap.objs.size 0 .none := by
    have := Heap.get?_push_size (s.heap.push o) (o := { cls := .type "enumerate", data := .fields #[.none, .bool false, .ref s.heap.objs.size, rawInt 0, .none, .none] }) rfl
    rw [hz] at this; exact this
  refine ⟨⟨_, he, rfl⟩, h _ he (Heap.get?_push_of_some _ (Heap.get?_push_size _ B.free)) (by rw [Heap.size_push, hz]) fun b o x => Heap.get?_push_of_some _ (Heap.get?_push_of_some _ x)⟩
end PySem
namespace L2
open PySem PySem.Spec PyProof.Rows
/-- the tuple at a, each item in a new pair with its place -/
def IteT (K : PySem.W.Frag) (a : Addr) : It :=
  ⟨fun i H => ∃ (xs : List V) (x : V), SqT K H a xs ∧ xs[i]? = some x, fun i H v H' => ∃ T x, v = .ref T ∧ H T = none ∧ H' = upd H T (.tup [.int (i : Nat), x]) ∧ ∀ xs, SqT K H a xs → xs[i]? = some x, fun i H => ∃ xs : List V, SqT K H a xs ∧ xs.length ≤ i⟩
theorem turn_enumT {P : Program} {w : World} {K : PySem.W.Frag} {elts : List Expr} {kk : Nat} {tpos : Pos} (a e it : Addr) :
    Turn P w K (.Tuple elts kk tpos) (IteT K a) [e, it] e (fun i h => (∃ old, IsEnum h e it ((i : Nat) : Int) old) ∧ h.IsTupleIter it a i ∧ e ≠ it ∧ a ≠ it ∧ a ≠ e) where
  mem := by simp
  obj := fun i h st b hb => by
    obtain ⟨⟨old, he⟩, ⟨o, ho, hc, hd⟩, _⟩ := st
    have e' : b = e ∨ b = it := by simpa using hb
    rcases e' with z | z
    · rw [z]; exact ⟨_, he, fun v q => nomatch q⟩
    · rw [z]; exact ⟨o, ho, fun v q => by rw [hd] at q; cases q⟩
  keep := fun i h h' st k => let ⟨⟨old, he⟩, hi, hne⟩ := st; ⟨⟨old, k e (by simp) _ he⟩, hi.at fun o q => k it (by simp) o q, hne⟩
  item := by
    intro X hP hw hK hc i pins s σ H E I hf st hg
    subst hP hw hK
    obtain ⟨⟨old, he⟩, hit, hne, ha1, ha2⟩ := st
    obtain ⟨xs, x, hq, hx⟩ := hg
    obtain ⟨its, rv, p, hz⟩ := I.tuple hq
    obtain ⟨u, hu, ru⟩ := rv.get hx
    have hel : e < s.heap.objs.size := Heap.lt_size he
    have hil : it < s.heap.objs.size := by obtain ⟨_, q, _⟩ := hit; exact Heap.lt_size q
    have ht : s.heap.IsTuple a its.toArray := p
    refine wpAny_pyNext_enum_itemD (Draws.tuple (A := X.A.in1) (by exact I.ok.hd hc) it a ha1 its.toArray) he ⟨hit, ht⟩ (by have := (List.getElem?_eq_some_iff.mp hu).1; simpa using this) hne (by simp [hne, Ne.symm ha2]) fun x' h' tk hx' ho hst' hT hsz hk => ?_
    have ex : x' = u := by
      have h1 : its[i]? = some x' := by simpa using hx'
      rw [hu] at h1
      exact (Option.some.inj h1).symm
    subst ex
    obtain ⟨hit', _⟩ := hst'
    refine ⟨_, rfl, wpAny_letOwnedTupleGo_enum (s := { s with heap := h', toks := tk + 1 }) ho fun h'' he' sb => ?_⟩
    have hT2 : h''.get? s.heap.objs.size = some { cls := .type "tuple", data := .seq #[.int i tk, x'] } := (sb.2 _ (Nat.ne_of_gt hel)).trans hT
    have new : ObjOk X.prog X.w (upd H s.heap.objs.size (.tup [.int (i : Nat), x])) h'' s.heap.objs.size (.tup [.int (i : Nat), x]) :=
      ⟨by show 2 ≤ sizeLine; decide, [.int i tk, x'], .cons ⟨_, rfl⟩ (.cons ru .nil), ⟨_, hT2, rfl, _, rfl⟩⟩
    have I1 : Inv X pins σ (upd H s.heap.objs.size (.tup [.int (i : Nat), x])) { s with heap := h'', toks := tk + 1 } :=
      I.turnedNew (ch := [e, it]) (fun b ob hb q => (sb.2 b (fun z => hb (by simp [z]))).trans (hk b ob (fun z => hb (by simp [z])) (fun z => hb (by simp [z])) q)) hf (Nat.le_refl _) new
    refine ⟨.ref s.heap.objs.size, _, I1, rfl, ⟨_, x, rfl, I.hok.fresh (Nat.le_refl _), rfl, fun ys hy => by rw [I.tuple_inj hy hq]; exact hx⟩, ⟨⟨x', ?_⟩, hit'.at fun o q => (sb.2 it (Ne.symm hne)).trans q, hne, ha1, ha2⟩, fun b hb => ?_⟩
    · have e1 : ((i + 1 : Nat) : Int) = (i : Int) + 1 := by omega
      rw [e1]; exact he'
    · have hb' : b < s.heap.objs.size := by
        have e' : b = e ∨ b = it := by simpa using hb
        rcases e' with z | z
        · rw [z]; exact hel
        · rw [z]; exact hil
      rw [upd_ne (Nat.ne_of_lt hb')]
      exact (hf b hb).1
  done := by
    intro X hP hw hK hc i pins s σ H E I hf st hg
    subst hP hw hK
    obtain ⟨⟨old, he⟩, hit, hne, ha1, ha2⟩ := st
    obtain ⟨xs, hq, hx⟩ := hg
    obtain ⟨its, rv, p, hz⟩ := I.tuple hq
    obtain ⟨f0, f1, f2, f3, f4, f5⟩ := hf it (by simp)
    have hl := rv.length
    have ht : s.heap.IsTuple a its.toArray := p
    have hT : s.TypeIs (.ref e) "enumerate" := ⟨_, he, rfl⟩
    refine wpAny_pyNext_enum_endD (n := i) (i := i) (P := fun _ _ => False) (St := fun j h => j = i ∧ h.IsTupleIter it a i ∧ h.IsTuple a its.toArray) (fp := [it, a])
      { live := fun _ _ z => let ⟨o, ho, _⟩ := z.2.1; ⟨o, ho⟩, frame := fun _ _ _ z hk => ⟨z.1, z.2.1.at fun o q => hk it (by simp) o q, z.2.2.at fun o q => hk a (by simp) o q⟩, item := fun j s Q E hj z _ => absurd hj (by rw [z.1]; exact Nat.lt_irrefl _), done := fun s Q E z hE => wpAny_nextOf_tuple_end (by exact I.ok.hd hc) z.2.1 z.2.2 (by simp; omega) hE } he ⟨rfl, hit, ht⟩ fun h' eb => ⟨rfl, I.turned (t' := s.toks) (fun b o hb q => eb b o hb q) f0 f1 f3 f4 f5⟩
  self := fun A i s Q E st h => let ⟨⟨_, he⟩, _⟩ := st; wpAny_pyIter_enum he h
def iEnumT (K : PySem.W.Frag) (ta : TA) : TI := fun σ H R => ta σ H fun vs H1 => ∃ a xs, vs = [.ref a] ∧ SqT K H1 a xs ∧ R (IteT K a) H1
theorem pi_enumT {X : Cx} {e : Expr} {ta : TA} {p pos tpos : Pos} {elts : List Expr} {kk : Nat} (hg : Gl X "enumerate") (hm : X.mg "enumerate" = none) (ha : PA X [e] ta) (hs : starEach [e] X.env = [(false, eval e X.env)] := by rfl) :
    PI X (.Tuple elts kk tpos) (.Call (.Name "enumerate" p) [e] [] pos) (iEnumT X.K ta) := by
  refine ⟨fun pins s σ H R I h => ?_⟩
  refine Call_ (ld_blt I hg hm boot_enumerate (PyProof.Rows.callWith_type1 (thn (ha.run pos pins s σ H _ I h) fun us s1 ⟨vs, H1, I1, r1, q1⟩ => ?_) hs rfl))
  obtain ⟨a, xs, ex, hq, q⟩ := q1
  subst ex
  cases r1 with
  | cons r rr =>
    cases rr
    cases r
    obtain ⟨its, rv, p', hz⟩ := I1.tuple hq
    have ht : s1.heap.IsTuple a its.toArray := p'
    have hal : a < s1.heap.objs.size := by obtain ⟨_, q, _⟩ := ht; exact Heap.lt_size q
    refine PySem.k79_call_enumerate (begins_tuple a its.toArray) ht fun h' he hit hsz hk => wpAny_pyIter_enum he ?_
    have I2 : Inv X pins σ H1 { s1 with heap := h' } := I1.kept (t' := s1.toks) hk
    refine ⟨s1.heap.objs.size + 1, [s1.heap.objs.size + 1, s1.heap.objs.size], _, _, H1, rfl, I2, turn_enumT a (s1.heap.objs.size + 1) s1.heap.objs.size, ⟨⟨.none, he⟩, ⟨_, hit, rfl, rfl⟩, Nat.succ_ne_self _, Nat.ne_of_lt hal, Nat.ne_of_lt (Nat.lt_succ_of_lt hal)⟩, fun b hb => ?_, q⟩
    have e' : b = s1.heap.objs.size + 1 ∨ b = s1.heap.objs.size := by simpa using hb
    have hle : s1.heap.objs.size ≤ b := by
      rcases e' with z | z
      · rw [z]; exact Nat.le_add_right _ _
      · rw [z]; exact Nat.le_refl _
    exact I1.fpOk hle (I1.hok.fresh hle)
end L2
set_option Elab.async false
set_option linter.all false
set_option maxRecDepth 100000
/-! KS: for and comprehensions over enumerate, by types. -/
namespace K79
open PySem L2
open PyProof.Rows (envOfC)
structure EnumIt (J : It) (S1 : Hp) (vs : List V) : Prop where
  go : ∀ n H, Same S1 H → n < vs.length → J.go n H
  stop : ∀ n H, Same S1 H → vs.length ≤ n → J.stop n H
  yld : ∀ n H v H', Same S1 H → J.yld n H v H' → ∃ T x, v = .ref T ∧ H T = none ∧ H' = upd H T (.tup [.int (n : Nat), x]) ∧ vs[n]? = some x
theorem enumIt_T {K : PySem.W.Frag} {a : Addr} {S1 : Hp} {vs : List V} (h : SqT K S1 a vs) : EnumIt (IteT K a) S1 vs :=
  ⟨fun n H e hn => ⟨vs, vs[n], same_t e h, by simp [hn]⟩, fun n H e hn => ⟨vs, same_t e h, hn⟩, fun n H v H' e ⟨T, x, h1, h2, h3, h4⟩ => ⟨T, x, h1, h2, h3, h4 vs (same_t e h)⟩⟩
theorem enumIt_L {K : PySem.W.Frag} {a : Addr} {S1 : Hp} {vs : List V} (h : SqL K S1 a vs) : EnumIt (Ite K a) S1 vs :=
  ⟨fun n H e hn => ⟨vs, vs[n], same_l e h, by simp [hn]⟩, fun n H e hn => ⟨vs, same_l e h, hn⟩, fun n H v H' e ⟨T, x, h1, h2, h3, h4⟩ => ⟨T, x, h1, h2, h3, h4 vs (same_l e h)⟩⟩
/-- what an enumerate's iterable gives -/
def EnTy (wi : TI) (O : Owns) (Γ : Env) (ts : List Ty) : Prop := ∀ (σ : L2.St) (F S H : Hp) (R : It → Hp → Prop), EnvOk Γ σ S → OwnOk O F S H → Same S H → (∀ J vs S1 H1, Grow S H S1 H1 → All2 ts vs S1 → EnumIt J S1 vs → R J H1) → wi σ H R
section
variable {X : Cx} {S0 H0 : Hp} {O : Owns} {Γ Δ : Env} {D : Ends} {e a b c o : Expr} {es : List Expr} {rest body orelse : List Stmt} {T U R : Ty} {ts rs : List Ty} {pos : Pos} {x y : Str} {i j : Nat}
theorem enTy_T (h : ETy X O Γ e (tTup X.K ts)) (hs : starEach (e :: []) X.env = (false, eval e X.env) :: starEach [] X.env := by rfl) : EnTy (iEnumT X.K (wA X [e])) O Γ ts := fun σ F S H R g oo i q =>
  at_one h hs σ F S H _ g oo i fun vs S1 H1 g1 t1 => by
    obtain ⟨u, rfl, a, ys, h1, h2, h3⟩ := all2_1 t1
    subst h1
    exact ⟨a, ys, rfl, same_t g1.i h2, q _ ys S1 H1 g1 h3 (enumIt_T h2)⟩
theorem enTy_L (h : ETy X O Γ e (tLst X.K ts)) (hs : starEach (e :: []) X.env = (false, eval e X.env) :: starEach [] X.env := by rfl) : EnTy (iEnum X.K (wA X [e])) O Γ ts := fun σ F S H R g oo i q =>
  at_one h hs σ F S H _ g oo i fun vs S1 H1 g1 t1 => by
    obtain ⟨u, rfl, a, ys, h1, h2, h3⟩ := all2_1 t1
    subst h1
    exact ⟨a, ys, rfl, same_l g1.i h2, q _ ys S1 H1 g1 h3 (enumIt_L h2)⟩
/-- for i, x in an enumerate -/
theorem bt_forE {wi : TI} {px py pt : Pos} {kt : Nat} (i j : Nat) (G : Nat → Env) (OO : Nat → Owns) (nd : X.N.Nodup) (hp : PassesOwn (model X.prog X.w) X.A X.env X.xe) (hpi : PI X (.Tuple [.Name x px, .Name y py] kt pt) e wi) (hi : EnTy wi O Γ ts) (h0 : EnvLe Γ (G 0)) (o0 : OO 0 = O)
    (hb : ∀ S1 H1, Grow S0 H0 S1 H1 → ∀ n T, ts[n]? = some T → BTy X S1 H0 (OO n) (((G n).set i (some (tI (n : Nat)))).set j (some T)) body { D with nx := Nx S1 H0 (OO (n + 1)) (G (n + 1)), ct := Nx S1 H0 (OO (n + 1)) (G (n + 1)), bk := wSs X rest D })
    (hr : BTy X S0 H0 (OO ts.length) (G ts.length) rest D) (hx : X.N[i]? = some x := by rfl) (hy : X.N[j]? = some y := by rfl) (hl : Loc X.env.scope x := by first | exact Or.inl rfl | exact Or.inr rfl) (hl2 : Loc X.env.scope y := by first | exact Or.inl rfl | exact Or.inr rfl)
    (hf : X.fn x = true ∨ X.env.scope.names.lookup x = some .local := by first | exact .inl rfl | exact .inr rfl | assumption) (hf2 : X.fn y = true ∨ X.env.scope.names.lookup y = some .local := by first | exact .inl rfl | exact .inr rfl | assumption)
    (hc : X.calm = true := by rfl) (hs : ∀ x, foldedSetIterable e X.env x = pure x := by intro _; rfl)
    (hs1 : (assignEach [.Name x px, .Name y py] X.env).map (·.2) = assign (.Name x px) X.env :: (assignEach [.Name y py] X.env).map (·.2) := by rfl) (hs2 : (assignEach [.Name y py] X.env).map (·.2) = assign (.Name y py) X.env :: (assignEach [] X.env).map (·.2) := by rfl)
    (hn : (assignEach [.Name x px, .Name y py] X.env).length = 2 := by rfl) (hst : (assignEach [.Name x px, .Name y py] X.env).findIdx? (·.1) = none := by rfl) : BTy X S0 H0 O Γ (.For (.Tuple [.Name x px, .Name y py] kt pt) e body [] pos :: rest) D := fun σ S H g0 g1 o =>
  of_pss (pss_cons (ps_for hp hc hpi (pg_tup hc (pgs_cons (pg_name nd hx hl hf) (pgs_cons (pg_name nd hy hl2 hf2) pgs_nil hs2) hs1) hn hst) pss_w hs) pss_w) (hi σ H0 S H _ g1 o g0.i fun J vs S1 H1 g2 h3 E => by
    have gg := g0.trans g2
    have hlen := h3.len
    refine ⟨fun n m σ H => m = vs.length - n ∧ n ≤ vs.length ∧ Nx S1 H0 (OO n) (G n) σ H, ⟨vs.length, by simp, Nat.zero_le _, S1, gg.forth (.refl g2.i), (g1.m g2.s).le h0, by rw [o0]; exact o.grow g2⟩, ?_⟩
    rintro n m σ H ⟨rfl, hn, S, g, en, oo⟩
    by_cases hlt : n < vs.length
    · refine .inr ⟨E.go n H (g.s.trans g.i) hlt, Nx S1 H0 (OO (n + 1)) (G (n + 1)), fun σ' H' hN => ⟨vs.length - (n + 1), by omega, rfl, hlt, hN⟩, fun v H' hy' => ?_⟩
      obtain ⟨T, w, rfl, hT, rfl, hw⟩ := E.yld n H v H' (g.s.trans g.i) hy'
      obtain ⟨U, hU, hUw⟩ := h3.getV hw
      have g3 : Grow S H (upd S T (.tup [.int (n : Nat), w])) (upd H T (.tup [.int (n : Nat), w])) := .new g.i hT
      refine ⟨T, _, rfl, SqT.of upd_same, rfl, .int (n : Nat), _, rfl, w, _, rfl, rfl, ?_⟩
      exact hb S1 H1 gg n U hU _ _ _ (g.trans g3) (((en.m g3.s).set i rfl).set j (U.m (g.s.trans g3.s) hUw)) (oo.grow g3)
    · have e : n = vs.length := by omega
      subst e
      rw [← hlen] at en oo
      exact .inl ⟨E.stop _ H (g.s.trans g.i) (Nat.le_refl _), hr.rebase gg σ S H g en oo⟩)
/-! ### comprehensions -/
theorem set4 {α : Type} {l : List α} {i j : Nat} {a b c d : α} (h : i ≠ j) : (((l.set j a).set i b).set i c).set j d = (l.set i c).set j d := by
  rw [List.set_set, List.set_comm (l := l) _ _ (Ne.symm h), List.set_set]
theorem set4' {α : Type} {l : List α} {i j : Nat} {a b c d : α} (h : i ≠ j) : (((l.set i a).set j b).set j c).set i d = (l.set j c).set i d := set4 (Ne.symm h)
theorem LcI.newtup {S1 H1 H' : Hp} {D T : Addr} {ts : List Ty} {xs : List V} (h : LcI S1 H1 D ts H') (hT : H' T = none) : LcI S1 H1 D ts (upd H' T (.tup xs)) := by
  obtain ⟨S', H'', vs, g, hD, rfl, a2⟩ := h
  have ne : T ≠ D := fun z => by rw [z, upd_same] at hT; cases hT
  have hT' : H'' T = none := by rw [upd_ne ne] at hT; exact hT
  have g2 : Grow S' H'' (upd S' T (.tup xs)) (upd H'' T (.tup xs)) := .new g.i hT'
  refine ⟨_, _, vs, g.trans g2, by rw [upd_ne (Ne.symm ne)]; exact hD, ?_, a2.m g2.s⟩
  funext b
  unfold upd
  by_cases h1 : b = T
  · subst h1
    simp [ne]
  · simp [h1]
theorem rt_lcE {sc : Scope} {wi : TI} (i j : Nat) (hij : i ≠ j) (hi : EnTy wi O Γ ts) (hl : rs.length = ts.length) (hl9 : ts.length ≤ 99999) (he : ∀ n U W, ts[n]? = some U → rs[n]? = some W → BlkE X sc O ((Γ.set i (some (tI (n : Nat)))).set j (some U)) e W) :
    RTy (tLc wi (gTup X.K 2 (gCons (gName i) (gCons (gName j) gNil))) (wIfs X sc []) (wB X sc e) [i, j]) O Γ (tLst X.K rs) := fun σ F S H Q gσ oo i1 q =>
  hi σ F S H _ gσ oo i1 fun J vs S1 H1 g2 h3 E => fun D hD => by
    have hlen := h3.len
    have ooo := oo.grow g2
    refine ⟨fun n m H => m = vs.length - n ∧ n ≤ vs.length ∧ LcI S1 H1 D (rs.take n) H, ⟨vs.length, by simp, Nat.zero_le _, by rw [List.take_zero]; exact LcI.start g2.i hD⟩, ?_⟩
    rintro n m H ⟨rfl, hn, h⟩
    by_cases hlt : n < vs.length
    · refine .inr ⟨E.go n H h.same hlt, LcI S1 H1 D (rs.take (n + 1)), fun H' hN => ⟨vs.length - (n + 1), by omega, rfl, hlt, hN⟩, fun v H' hy' => ?_⟩
      obtain ⟨T, w, rfl, hT, rfl, hw⟩ := E.yld n H v H' h.same hy'
      obtain ⟨U, hU, hUw⟩ := h3.getV hw
      have hr : rs[n]? = some (rs[n]'(by omega)) := List.getElem?_eq_getElem (by omega)
      have h' := h.newtup (xs := [.int (n : Nat), w]) hT
      have hσ : EnvOk ((Γ.set i (some (tI (n : Nat)))).set j (some U)) (((wipe σ [i, j]).set i (some (.int (n : Nat)))).set j (some w)) S1 := by
        have z := ((((gσ.m g2.s).unset j (v := none)).unset i (v := none)).set i (T := tI (n : Nat)) (v := .int (n : Nat)) rfl).set j hUw
        rw [set4 hij] at z
        exact z
      refine ⟨T, _, rfl, SqT.of upd_same, rfl, .int (n : Nat), _, rfl, w, _, rfl, rfl, ?_, ?_⟩
      · show ((((((σ.set j none).set i none).set i (some (.int (n : Nat)))).set j (some w)).set j none).set i none) = (σ.set j none).set i none
        rw [set4 hij, set4' hij]
      · exact LcI.turn (kp := true) h' (by rw [List.length_take]; omega) ooo hσ (fun _ => by rw [List.take_add_one, hr]; rfl) (fun z => by cases z) (fun S H Q g o i q => q S H (.refl i)) fun _ S H Q g o i q s H0 C cl fp => he n U _ hU hr s H0 C cl fp _ F S H Q g o i q
    · have e : n = vs.length := by omega
      subst e
      rw [List.take_of_length_le (by omega)] at h
      exact .inl ⟨E.stop _ H h.same (Nat.le_refl _), h.done fun v S' H' g4 t4 => q v S' H' (g2.trans g4) t4⟩
structure LcOk2 (X : Cx) (sc : Scope) (x y : Str) (i j : Nat) : Prop where
  nd : X.N.Nodup
  ok : BlkOk X.N X.env.scope sc [(x, i), (y, j)]
  ix : X.N[i]? = some x
  iy : X.N[j]? = some y
  lx : sc.names.lookup x = some .local
  ly : sc.names.lookup y = some .local
theorem LcOk2.pg {sc : Scope} {px py pt : Pos} {kt : Nat} (h : LcOk2 X sc x y i j) (hc : X.calm = true) (s : Shared) (H0 : Hp) (C : Addr) (cl : List (Str × Addr)) (fp : List Addr) : PG (X.blk s H0 sc (compEnvC sc cl C X.env) fp) (.Tuple [.Name x px, .Name y py] kt pt) (gTup X.K 2 (gCons (gName i) (gCons (gName j) gNil))) :=
  pg_tup hc (pgs_cons (pg_name h.nd h.ix (Or.inl (lookup_relabel_local h.lx)) (Or.inr (lookup_relabel_local h.lx))) (pgs_cons (pg_name h.nd h.iy (Or.inl (lookup_relabel_local h.ly)) (Or.inr (lookup_relabel_local h.ly))) pgs_nil rfl) rfl) rfl rfl
end
end K79
set_option Elab.async false
set_option linter.all false
set_option maxRecDepth 100000
/-! D7: words against lines, hums, spans. -/
namespace K79
open PySem L2
open PyProof.Rows (envOfC)
section
variable {P : Program} {w : World} {K : PySem.W.Frag} {mg : Str → Option Value} {base : Heap}
theorem dec_self {n : Int} : decide (n = n) = true := decide_eq_true rfl
/-! ### check_word -/
abbrev spCheckWord (K : PySem.W.Frag) : Sp := spT (α := Ln × List Int) (fun x => [tLine K x.1, tWS K x.2]) (fun x => Word x.2 ∧ x.2.length = x.1.ls.length) (fun x => tW K x.2)
theorem sc_checkWord : FnScope ["line", "word"] ["line", "word"] (defScope sCheckWord) := ⟨rfl, rfl, rfl, by decide +kernel, rfl, by decide +kernel, by decide +kernel⟩
theorem fn_checkWord (T : Txt K mg) : Fn P w K mg base "check_word" 4 ["line", "word"] [] (spCheckWord K) := by
  refine fn_of' (st := sCheckWord) T.d_check_word (fun _ _ _ _ _ _ us h => match us, h with | [_, _], _ => rfl) sc_checkWord (fun _ => rfl) fun f cdv Ar outer s H E x pre hr S D hR _ => ?_
  obtain ⟨L, s'⟩ := x
  obtain ⟨hw, hl⟩ : Word s' ∧ s'.length = L.ls.length := pre
  have l24 := hw.l24
  show BTy _ _ _ _ [some (tLine K L), some (tWS K s')] _ _
  refine bt_no (tt_w (wt_or2 (tt_not (tt_val (et_isiS T.f_isinstance T.f_list T.f_tuple (et_var 1)))) (fun _ => wt_or1 (tt_ne (et_lenS T.f_len (et_var 1)) (et_lenLine (L := L) T (hr.mono (by decide)) (by omega) (et_var 0)))))) ?_ ?_
  · rw [List.length_map, hl, dec_self]
    rfl
  · exact bt_ret (et_call (x := s') (fn_checkSigns T) hr hw (at_one (et_var 1))) hR
/-! ### weigh_hum, _law_noise -/
def trm (ls : List Rat) (s : List Int) (t : List Rat) (n : Nat) : Rat := ls.getD n 0 * (s.getD n 0 : Int) * t.getD n 0
def trms (ls : List Rat) (s : List Int) (t : List Rat) : List Rat := (List.range s.length).map (trm ls s t)
def noise (ls : List Rat) (s : List Int) (t : List Rat) : Rat := sumQ (trms ls s t)
structure NzOk (ls : List Rat) (s : List Int) (t : List Rat) : Prop where
  sg : Signs s
  l1 : s.length = ls.length
  l2 : t.length = s.length
  sz : ∃ c d, (∀ q ∈ ls, Sz c q) ∧ (∀ q ∈ t, Sz d q) ∧ s.length * (c + d + 1) + (c + d) + 1 ≤ 9000
theorem getQ {l : List Rat} {n : Nat} (h : n < l.length) : l[n]? = some (l.getD n 0) := by
  rw [List.getD_eq_getElem?_getD, List.getElem?_eq_getElem h]
  rfl
theorem getQ_mem {l : List Rat} {n : Nat} (h : n < l.length) : l.getD n 0 ∈ l := List.mem_of_getElem? (getQ h)
theorem getS_mem {l : List Int} {n : Nat} (h : n < l.length) : l.getD n 0 ∈ l := List.mem_of_getElem? (getD_at h)
theorem trm_pos {ls : List Rat} {s : List Int} {t : List Rat} {n : Nat} (h : s.getD n 0 = 1) : trm ls s t n = ls.getD n 0 * t.getD n 0 := by
  unfold trm
  rw [h]
  show ls.getD n 0 * ((1 : Int) : Rat) * t.getD n 0 = _
  rw [show ((1 : Int) : Rat) = 1 from rfl, Rat.mul_one]
theorem trm_neg {ls : List Rat} {s : List Int} {t : List Rat} {n : Nat} (h : s.getD n 0 = -1) : trm ls s t n = -(ls.getD n 0 * t.getD n 0) := by
  unfold trm
  rw [h]
  show ls.getD n 0 * ((-1 : Int) : Rat) * t.getD n 0 = _
  rw [show ((-1 : Int) : Rat) = -1 from rfl]
  grind
theorem NzOk.trm_sz {ls : List Rat} {s : List Int} {t : List Rat} (h : NzOk ls s t) : ∃ e, (∀ n, n < s.length → Sz e (trm ls s t n)) ∧ s.length * (e + 1) + e + 1 ≤ 9000 := by
  obtain ⟨c, d, h1, h2, h3⟩ := h.sz
  refine ⟨c + d, fun n hn => ?_, h3⟩
  have z := (h1 _ (getQ_mem (by rw [← h.l1]; exact hn))).mul (h2 _ (getQ_mem (by rw [h.l2]; exact hn)))
  rcases h.sg.sg _ (getS_mem hn) with e | e
  · rw [trm_pos e]; exact z
  · rw [trm_neg e]; exact z.neg
theorem NzOk.sum {ls : List Rat} {s : List Int} {t : List Rat} (h : NzOk ls s t) : SumOk (trms ls s t) := by
  obtain ⟨e, h1, h2⟩ := h.trm_sz
  refine ⟨e, fun q hq => ?_, by unfold trms; rw [List.length_map, List.length_range]; omega⟩
  obtain ⟨n, hn, rfl⟩ := List.mem_map.mp hq
  exact h1 n (by simpa using hn)
abbrev spWeigh (K : PySem.W.Frag) : Sp := spT (α := Ln × List Int × List Rat) (fun x => [tLine K x.1, tW K x.2.1, tQs K x.2.2]) (fun x => NzOk x.1.ls x.2.1 x.2.2) (fun x => tQ K (noise x.1.ls x.2.1 x.2.2))
theorem sc_weigh : FnScope ["line", "signs", "told", "amounts", "at", "sign", "amount"] ["line", "signs", "told"] (defScope sWeighHum) := ⟨rfl, rfl, rfl, by decide +kernel, rfl, by decide +kernel, by decide +kernel⟩
theorem range_snoc {α : Type} (f : Nat → α) (n : Nat) : (List.range (n + 1)).map f = (List.range n).map f ++ [f n] := by rw [List.range_succ, List.map_append]; rfl
theorem fn_weigh (T : Txt K mg) : Fn P w K mg base "weigh_hum" 5 ["line", "signs", "told"] [] (spWeigh K) := by
  refine fn_of' (st := sWeighHum) T.d_weigh_hum (fun _ _ _ _ _ _ us h => match us, h with | [_, _, _], _ => rfl) sc_weigh (fun _ => rfl) fun f cdv Ar outer s H E x pre hr S D hR _ => ?_
  obtain ⟨L, s', t⟩ := x
  have pre : NzOk L.ls s' t := pre
  have nd := sc_weigh.nd
  have l24 := pre.sg.l24
  have e1 := pre.l1
  have e2 := pre.l2
  show BTy _ _ _ _ [some (tLine K L), some (tW K s'), some (tQs K t), none, none, none, none] _ _
  refine bt_newL 3 nd fun p => ?_
  refine bt_forE (ts := s'.map tI) 4 5 (fun _ => [some (tLine K L), some (tW K s'), some (tQs K t), some (tV (.ref p)), none, none, none]) (fun n => [(p, oL (((List.range n).map (trm L.ls s' t)).map (tQ K)))]) nd PassesOwn.never (pi_enumT rfl T.f_enumerate pa_w) (enTy_T (et_var 1)) (.refl _) rfl (fun S1 H1 g n U hU => ?_) ?_
  · obtain ⟨x, ex, rfl⟩ := at_map hU
    have hn : n < s'.length := (List.getElem?_eq_some_iff.mp ex).1
    have exd : x = s'.getD n 0 := Option.some.inj (ex.symm.trans (getD_at hn))
    obtain ⟨c, d, z1, z2, z3⟩ := pre.sz
    have hl : L.ls[n]? = some (L.ls.getD n 0) := getQ (by omega)
    have ht : t[n]? = some (t.getD n 0) := getQ (by omega)
    refine bt_set 6 nd (et_call (x := (L.ls.getD n 0, t.getD n 0)) (fn_times T) (hr.mono (by decide)) ⟨c, d, z1 _ (getQ_mem (by omega)), z2 _ (getQ_mem (by omega)), ?_⟩ (at_cons (et_ixT (et_lengths (L := L) T (et_var 0)) (et_var 4) rfl (map_at hl)) (at_one (et_ixT (et_var 2) (et_var 4) rfl (map_at ht))))) ?_
    · have : 1 * (c + d + 1) ≤ s'.length * (c + d + 1) := Nat.mul_le_mul_right _ (by omega)
      omega
    refine bt_app (T := tQ K (trm L.ls s' t n)) 0 rfl (et_var 3) (et_if (tt_eq' (et_var 5) et_int) (fun h => et_eq (et_var 6) ?_) (fun h => et_eq (et_call (x := L.ls.getD n 0 * t.getD n 0) (fn_negative T) (hr.mono (by decide)) trivial (at_one (et_var 6))) ?_)) (by rw [List.length_map, List.length_map, List.length_range]; omega) ?_
    · have h : x = 1 := of_decide_eq_true h
      rw [trm_pos (by rw [← exd]; exact h)]
      rfl
    · have h : ¬ x = 1 := of_decide_eq_false h
      have hd : s'.getD n 0 = -1 := by
        rcases pre.sg.sg x (List.mem_of_getElem? ex) with z | z
        · exact absurd z h
        · rw [← exd]; exact z
      rw [trm_neg hd]
      rfl
    · refine bt_nil fun σ S H g e o => ⟨S, g, e.le (el_eq (el_eq (el_eq (el_eq (el_no (el_no (el_no el_nil))))))), ?_⟩
      rw [range_snoc, List.map_append]
      exact o
  · refine bt_frzL 3 rfl ?_
    refine bt_ret (et_call (x := trms L.ls s' t) (fn_sumOf T) hr pre.sum (at_one (et_eq (et_var 3) ?_))) hR
    rw [List.length_map]
    rfl
theorem sz_sign {c : Nat} {q : Rat} {x : Int} (h : Sz c q) (hx : x = 1 ∨ x = -1) : Sz c (q * (x : Int)) := by
  rcases hx with rfl | rfl
  · rw [show ((1 : Int) : Rat) = 1 from rfl, Rat.mul_one]; exact h
  · have e : q * ((-1 : Int) : Rat) = -q := by rw [show ((-1 : Int) : Rat) = -1 from rfl]; grind
    rw [e]; exact h.neg
theorem mul_sign_num {q : Rat} {x : Int} (hx : x = 1 ∨ x = -1) : (q * (x : Int)).num = q.num * x ∧ (q * (x : Int)).den = q.den := by
  rcases hx with rfl | rfl
  · rw [show ((1 : Int) : Rat) = 1 from rfl, Rat.mul_one]
    exact ⟨by omega, rfl⟩
  · have e : q * ((-1 : Int) : Rat) = -q := by rw [show ((-1 : Int) : Rat) = -1 from rfl]; grind
    rw [e]
    exact ⟨by rw [Rat.neg_num]; omega, Rat.neg_den ..⟩
abbrev spLNoise (K : PySem.W.Frag) : Sp := spT (α := List Rat × List Int × List Rat) (fun x => [tQs K x.1, tW K x.2.1, tQs K x.2.2]) (fun x => NzOk x.1 x.2.1 x.2.2) (fun x => tQ K (noise x.1 x.2.1 x.2.2))
theorem sc_lnoise : FnScope ["_law_lengths", "_law_word", "_law_hum", "_law_total", "_law_k"] ["_law_lengths", "_law_word", "_law_hum"] (defScope sLLawNoise) := ⟨rfl, rfl, rfl, by decide +kernel, rfl, by decide +kernel, by decide +kernel⟩
theorem fn_lnoise (T : Txt K mg) : Fn P w K mg base "_law_noise" 4 ["_law_lengths", "_law_word", "_law_hum"] [] (spLNoise K) := by
  refine fn_of' (st := sLLawNoise) T.d__law_noise (fun _ _ _ _ _ _ us h => match us, h with | [_, _, _], _ => rfl) sc_lnoise (fun _ => rfl) fun f cdv Ar outer s H E x pre hr S D hR _ => ?_
  obtain ⟨ls, s', t⟩ := x
  have pre : NzOk ls s' t := pre
  have nd := sc_lnoise.nd
  have l24 := pre.sg.l24
  have e1 := pre.l1
  have e2 := pre.l2
  have hs := pre.sum
  show BTy _ _ _ _ [some (tQs K ls), some (tW K s'), some (tQs K t), none, none] _ _
  refine bt_set (T := tQ K 0) 3 nd (et_tup (at_cons et_int (at_one et_int))) ?_
  refine bt_forR 4 s'.length (fun n => [some (tQs K ls), some (tW K s'), some (tQs K t), some (tQ K (sumQ ((trms ls s' t).take n))), none]) (fun _ => []) nd PassesOwn.never T.f_range (et_eq (et_lenT T.f_len (et_var 1)) (by rw [List.length_map])) (by omega) (.refl _) rfl (fun S1 H1 g n hn => ?_) ?_
  · obtain ⟨c, d, z1, z2, z3⟩ := pre.sz
    have hl : ls[n]? = some (ls.getD n 0) := getQ (by omega)
    have ht : t[n]? = some (t.getD n 0) := getQ (by omega)
    have hx : s'[n]? = some (s'.getD n 0) := getD_at hn
    have hg := pre.sg.sg _ (getS_mem hn)
    have hm := mul_sign_num (q := ls.getD n 0) hg
    have e : (trms ls s' t)[n]? = some (trm ls s' t n) := by unfold trms; rw [List.getElem?_map, List.getElem?_range hn]; rfl
    have zc : c + d + 1 + 1 ≤ 9000 := by
      have : 1 * (c + d + 1) ≤ s'.length * (c + d + 1) := Nat.mul_le_mul_right _ (by omega)
      omega
    refine bt_set 3 nd (et_call (x := (sumQ ((trms ls s' t).take n), trm ls s' t n)) (fn_lplus T) hr (hs.at e) (at_cons (et_var 3) (at_one (et_call (x := (ls.getD n 0 * (s'.getD n 0 : Int), t.getD n 0)) (fn_ltimes T) hr ⟨c, d, sz_sign (z1 _ (getQ_mem (by omega))) hg, z2 _ (getQ_mem (by omega)), by omega⟩ (at_cons (et_eq (et_tup (at_cons (et_mul (.inr (by rcases hg with h | h <;> rw [h] <;> decide)) (et_q0 (et_ixT (et_var 0) (et_var 4) rfl (map_at hl))) (et_ixT (et_var 1) (et_var 4) rfl (map_at hx))) (at_one (et_q1 (et_ixT (et_var 0) (et_var 4) rfl (map_at hl)))))) (tQ_of hm.1 (by rw [hm.2]))) (at_one (et_ixT (et_var 2) (et_var 4) rfl (map_at ht)))))))) ?_
    refine bt_turn (fun _ _ h => h) ?_
    show EnvLe _ [_, _, _, some (tQ K (sumQ ((trms ls s' t).take (n + 1)))), none]
    rw [sumQ_take e]
    exact el_eq (el_eq (el_eq (el_eq (el_no el_nil))))
  · have e : (trms ls s' t).take s'.length = trms ls s' t := List.take_of_length_le (by unfold trms; simp)
    rw [e]
    exact bt_ret (et_var 3) hR
end
end K79
set_option Elab.async false
set_option linter.all false
set_option maxRecDepth 100000
/-! KU: == and in of nested things; truth of lists. -/
namespace K79
open PySem L2
open PyProof.Rows (envOfC)
def DpTy (K : PySem.W.Frag) (T : Ty) (d : PyData) : Prop := ∀ v S, T.p v S → Dp K S v d
def DpTys (K : PySem.W.Frag) (ts : List Ty) (ds : List PyData) : Prop := ∀ vs S, All2 ts vs S → DpAll K S vs ds
section
variable {K : PySem.W.Frag}
theorem dp_int {i : Int} : DpTy K (tI i) (.int i) := fun v S h => by
  have h : v = .int i := h
  subst h
  exact .int i
theorem dp_nil : DpTys K [] [] := fun vs S h => by cases h; exact .nil
theorem dp_cons {T : Ty} {ts : List Ty} {d : PyData} {ds : List PyData} (h : DpTy K T d) (r : DpTys K ts ds) : DpTys K (T :: ts) (d :: ds) := fun vs S a => by
  cases a with
  | cons a1 a2 => exact .cons (h _ _ a1) (r _ _ a2)
theorem dp_map {α : Type} {f : α → Ty} {g : α → PyData} (h : ∀ x, DpTy K (f x) (g x)) : ∀ l : List α, DpTys K (l.map f) (l.map g)
  | [] => dp_nil
  | x :: r => dp_cons (h x) (dp_map h r)
theorem dp_tup {ts : List Ty} {ds : List PyData} (h : DpTys K ts ds) : DpTy K (tTup K ts) (.tuple ds) := fun v S ⟨a, vs, h1, h2, h3⟩ => by
  subst h1
  exact .tup h2 (h vs S h3)
theorem dp_lst {ts : List Ty} {ds : List PyData} (h : DpTys K ts ds) : DpTy K (tLst K ts) (.list ds) := fun v S ⟨a, vs, h1, h2, h3⟩ => by
  subst h1
  exact .lst h2 (h vs S h3)
def wD (s : List Int) : PyData := .tuple (s.map .int)
def qD (q : Rat) : PyData := .tuple [.int q.num, .int q.den]
theorem dp_w {s : List Int} : DpTy K (tW K s) (wD s) := dp_tup (dp_map (fun _ => dp_int) s)
theorem dp_row {s : List Int} : DpTy K (tRow s) (wD s) := fun v S h => dp_w v S (tRow_tup v S h)
theorem dp_q {q : Rat} : DpTy K (tQ K q) (qD q) := dp_tup (dp_cons dp_int (dp_cons dp_int dp_nil))
theorem eqv_w (a b : List Int) : PyData.eqv (wD a) (wD b) = decide (a = b) := by
  unfold wD
  rw [PyData.eqv]
  exact PySem.W.ked_eqvAll a b
theorem eqvAll_map' {α : Type} [DecidableEq α] {f : α → PyData} (h : ∀ x y, PyData.eqv (f x) (f y) = decide (x = y)) : ∀ a b : List α, PyData.eqvAll (a.map f) (b.map f) = decide (a = b)
  | [], [] => by simp [PyData.eqvAll]
  | [], _ :: _ => by simp [PyData.eqvAll]
  | _ :: _, [] => by simp [PyData.eqvAll]
  | x :: a, y :: b => by
    rw [List.map_cons, List.map_cons, PyData.eqvAll, h, eqvAll_map' h a b]
    by_cases h1 : x = y <;> by_cases h2 : a = b <;> simp [h1, h2]
theorem q_ext {p q : Rat} (h1 : p.num = q.num) (h2 : p.den = q.den) : p = q := Rat.ext h1 h2
theorem eqv_q (p q : Rat) : PyData.eqv (qD p) (qD q) = decide (p = q) := by
  unfold qD
  rw [PyData.eqv, PyData.eqvAll, PyData.eqvAll, PyData.eqvAll, PyData.eqv, PyData.eqv]
  by_cases h : p = q
  · subst h; simp
  · rw [decide_eq_false h]
    by_cases h1 : p.num = q.num
    · have h2 : ¬ p.den = q.den := fun z => h (q_ext h1 z)
      have h3 : ((p.den : Int) == (q.den : Int)) = false := beq_eq_false_iff_ne.mpr (by omega)
      rw [h3]; simp
    · have h3 : (p.num == q.num) = false := beq_eq_false_iff_ne.mpr h1
      rw [h3]; simp
theorem lay_ints : ∀ s : List Int, PyData.canLayAll0 (s.map .int) = true
  | [] => by simp [PyData.canLayAll0]
  | x :: r => by simp [PyData.canLayAll0, PyData.canLay0, lay_ints r]
theorem depth_ints : ∀ s : List Int, PyData.depthAll (s.map .int) = 0
  | [] => by simp [PyData.depthAll]
  | x :: r => by simp [PyData.depthAll, PyData.depth, depth_ints r]
theorem lay_map {α : Type} {f : α → PyData} (h : ∀ x, (f x).canLay0 = true) : ∀ l : List α, PyData.canLayAll0 (l.map f) = true
  | [] => by simp [PyData.canLayAll0]
  | x :: r => by simp [PyData.canLayAll0, h x, lay_map h r]
theorem depth_map {α : Type} {f : α → PyData} {n : Nat} (h : ∀ x, (f x).depth ≤ n) : ∀ l : List α, PyData.depthAll (l.map f) ≤ n
  | [] => by simp [PyData.depthAll]
  | x :: r => by
    have h1 := h x
    have h2 := depth_map h r
    simp only [List.map_cons, PyData.depthAll]
    omega
theorem shaped_of {d : PyData} (h1 : d.canLay0 = true) (h2 : d.depth ≤ 64) : SeqAt.shaped d = true := by
  show (d.canLay0 && decide (d.depth ≤ 64)) = true
  rw [h1, decide_eq_true h2]
  rfl
theorem wD_lay (s : List Int) : (wD s).canLay0 = true := by unfold wD; simp only [PyData.canLay0]; exact lay_ints s
theorem wD_depth (s : List Int) : (wD s).depth = 1 := by unfold wD; simp only [PyData.depth, depth_ints]
theorem wD_shaped (s : List Int) : SeqAt.shaped (wD s) = true := shaped_of (wD_lay s) (by rw [wD_depth]; decide)
theorem qD_lay (q : Rat) : (qD q).canLay0 = true := by simp [qD, PyData.canLay0, PyData.canLayAll0]
theorem qD_depth (q : Rat) : (qD q).depth = 1 := by simp [qD, PyData.depth, PyData.depthAll]
theorem qD_shaped (q : Rat) : SeqAt.shaped (qD q) = true := shaped_of (qD_lay q) (by rw [qD_depth]; decide)
def wsD (l : List (List Int)) : PyData := .list (l.map wD)
theorem wsD_shaped (l : List (List Int)) : SeqAt.shaped (wsD l) = true := by
  refine shaped_of (by unfold wsD; simp only [PyData.canLay0]; exact lay_map wD_lay l) ?_
  have := depth_map (f := wD) (n := 1) (fun s => by rw [wD_depth]; exact Nat.le_refl _) l
  unfold wsD
  simp only [PyData.depth]
  omega
theorem dp_ws {l : List (List Int)} : DpTy K (tLst K (l.map (tW K))) (wsD l) := dp_lst (dp_map (fun _ => dp_w) l)
theorem eqv_ws (a b : List (List Int)) : PyData.eqv (wsD a) (wsD b) = decide (a = b) := by
  unfold wsD
  rw [PyData.eqv]
  exact eqvAll_map' eqv_w a b
def lnD (L : Ln) : PyData := .tuple [.tuple (L.ls.map qD), .tuple (L.ms.map qD)]
theorem lnD_shaped (L : Ln) : SeqAt.shaped (lnD L) = true := by
  have h1 := depth_map (f := qD) (n := 1) (fun s => by rw [qD_depth]; exact Nat.le_refl _) L.ls
  have h2 := depth_map (f := qD) (n := 1) (fun s => by rw [qD_depth]; exact Nat.le_refl _) L.ms
  refine shaped_of (by simp [lnD, PyData.canLay0, PyData.canLayAll0, lay_map qD_lay]) ?_
  unfold lnD
  simp only [PyData.depth, PyData.depthAll]
  omega
abbrev tLn (K : PySem.W.Frag) (L : Ln) : Ty := tTup K [tQs K L.ls, tQs K L.ms]
theorem dp_ln {L : Ln} : DpTy K (tLn K L) (lnD L) := dp_tup (dp_cons (dp_tup (dp_map (fun _ => dp_q) _)) (dp_cons (dp_tup (dp_map (fun _ => dp_q) _)) dp_nil))
theorem eqv_ln (L M : Ln) : PyData.eqv (lnD L) (lnD M) = (decide (L.ls = M.ls) && decide (L.ms = M.ms)) := by
  unfold lnD
  rw [PyData.eqv, PyData.eqvAll, PyData.eqvAll, PyData.eqvAll, PyData.eqv, PyData.eqv, eqvAll_map' eqv_q, eqvAll_map' eqv_q]
  simp
end
section
variable {X : Cx} {O : Owns} {Γ : Env} {a b : Expr} {T U : Ty} {d e : PyData} {pos : Pos} {k : Bool}
theorem r_eqD (h1 : DpTy X.K T d) (h2 : DpTy X.K U e) (s1 : SeqAt.shaped d = true) (s2 : SeqAt.shaped e = true) : ∀ x y S H (Q : VK), T.p x S → U.p y S → Same S H → (∀ v S' H', Grow S H S' H' → (tBl (PyData.eqv d e)).p v S' → Q v H') → rEqD X.K x y H Q := fun x y S H Q hx hy i q =>
  ⟨d, e, h1 _ _ (T.m i hx), h2 _ _ (U.m i hy), s1, s2, q _ S H (.refl i) rfl⟩
theorem r_neD (h1 : DpTy X.K T d) (h2 : DpTy X.K U e) (s1 : SeqAt.shaped d = true) (s2 : SeqAt.shaped e = true) : ∀ x y S H (Q : VK), T.p x S → U.p y S → Same S H → (∀ v S' H', Grow S H S' H' → (tBl (!PyData.eqv d e)).p v S' → Q v H') → rNeD X.K x y H Q := fun x y S H Q hx hy i q =>
  ⟨d, e, h1 _ _ (T.m i hx), h2 _ _ (U.m i hy), s1, s2, q _ S H (.refl i) rfl⟩
theorem tt_eqD (hu : X.A.units + 64 < cLine) (h1 : DpTy X.K T d) (h2 : DpTy X.K U e) (s1 : SeqAt.shaped d = true) (s2 : SeqAt.shaped e = true) (ha : ETy X O Γ a T) (hb : ETy X O Γ b U) (hm : behindInMarks .Eq b = false := by rfl) : TTy X O Γ (.Compare a [.Eq] [b] pos) (PyData.eqv d e) := tt_cmp (op_eqD hu) ha hb (r_eqD h1 h2 s1 s2) hm
theorem tt_neD (hu : X.A.units + 64 < cLine) (h1 : DpTy X.K T d) (h2 : DpTy X.K U e) (s1 : SeqAt.shaped d = true) (s2 : SeqAt.shaped e = true) (ha : ETy X O Γ a T) (hb : ETy X O Γ b U) (hm : behindInMarks .NotEq b = false := by rfl) : TTy X O Γ (.Compare a [.NotEq] [b] pos) (!PyData.eqv d e) := tt_cmp (op_neD hu) ha hb (r_neD h1 h2 s1 s2) hm
/-- a word in a list of words -/
theorem r_inD {s : List Int} {l : List (List Int)} : ∀ x y S H (Q : VK), (tW X.K s).p x S → (tLst X.K (l.map (tW X.K))).p y S → Same S H → (∀ v S' H', Grow S H S' H' → (tBl (decide (s ∈ l))).p v S' → Q v H') → rInD X.K x y H Q := fun x y S H Q hx hy i q =>
  ⟨wD s, l.map wD, dp_w _ _ ((tW X.K s).m i hx), dp_ws _ _ ((tLst X.K _).m i hy), wD_shaped s, wsD_shaped l, q _ S H (.refl i) (by
    show V.bl _ = V.bl _
    congr 1
    rw [List.any_map]
    by_cases h : s ∈ l
    · rw [decide_eq_true h]
      exact List.any_eq_true.mpr ⟨s, h, by show PyData.eqv (wD s) (wD s) = true; rw [eqv_w]; simp⟩
    · rw [decide_eq_false h]
      refine List.any_eq_false.mpr fun y hy => ?_
      show ¬ PyData.eqv (wD y) (wD s) = true
      rw [eqv_w]
      simp only [decide_eq_true_eq]
      exact fun z => h (z ▸ hy))⟩
theorem et_inD {s : List Int} {l : List (List Int)} (hu : X.A.units + 65 < cLine) (ha : ETy X O Γ a (tW X.K s)) (hb : ETy X O Γ b (tLst X.K (l.map (tW X.K)))) (hm : behindInMarks .In b = false := by rfl) : ETy X O Γ (.Compare a [.In] [b] pos) (tBl (decide (s ∈ l))) := et_cmp (op_inD hu) ha hb r_inD hm
/-- not [..] -/
theorem et_notL {ts : List Ty} (ha : ETy X O Γ a (tLst X.K ts)) : ETy X O Γ (.UnaryOp .Not a pos) (tBl ts.isEmpty) := fun σ F S H Q g o i q =>
  of_pe (pe_notT pe_w) (ha σ F S H _ g o i fun x S1 H1 g1 ⟨p, vs, e1, e2, e3⟩ => ⟨!vs.isEmpty, by
    subst e1
    exact .inl ⟨vs, same_l g1.i e2, rfl⟩, by
    rw [Bool.not_not]
    refine q _ S1 H1 g1 ?_
    show V.bl _ = V.bl _
    congr 1
    have := e3.len
    cases ts <;> cases vs <;> simp_all⟩)
theorem units64 {k : Nat} {A : Around} (r : Room k A) : A.units + 64 < cLine := r.units
theorem units65 {k : Nat} {A : Around} (r : Room k A) : A.units + 65 < cLine := by have := r.un; omega
theorem units1 {k : Nat} {A : Around} (r : Room k A) : A.units + 1 < cLine := by have := r.un; omega
end
end K79
set_option Elab.async false
set_option linter.all false
set_option maxRecDepth 100000
/-! D8: hums of marks, the law's orders, spans. -/
namespace K79
open PySem L2
open PyProof.Rows (envOfC)
section
variable {X : Cx} {S0 H0 : Hp} {O : Owns} {Γ : Env} {D : Ends} {e : Expr} {rest : List Stmt} {T : Ty} {pos : Pos}
theorem bt_expr (he : ETy X O Γ e T) (hr : BTy X S0 H0 O Γ rest D) (hs : swapsWith e none pos.line X.env = pure false := by rfl) : BTy X S0 H0 O Γ (.Expr e pos :: rest) D := fun σ S H g g1 oo =>
  of_pss (pss_cons (ps_expr pe_w hs) pss_w) (he σ H0 S H _ g1 oo g.i fun v S1 H1 g2 t => hr σ S1 H1 (g.trans g2) (g1.m g2.s) (oo.grow g2))
end
/-- a line as the law has it -/
def LnB (L : Ln) : Prop := ∃ c, LnOk c L ∧ c ≤ 60 ∧ L.ls.length ≤ 8
theorem LnB.ok {L : Ln} (h : LnB L) : OkLn L := let ⟨c, h1, h2, _⟩ := h; ⟨c, h1, by omega⟩
def hum (L : Ln) (p : Nat) : List Rat := L.ms.map (· ^ p)
theorem LnB.n8 {L : Ln} (h : LnB L) : L.ls.length ≤ 8 := let ⟨_, _, _, h⟩ := h; h
theorem LnB.l1 {L : Ln} (h : LnB L) : 1 ≤ L.ls.length := let ⟨_, h, _, _⟩ := h; h.l1
theorem LnB.len {L : Ln} (h : LnB L) : L.ls.length = L.ms.length := let ⟨_, h, _, _⟩ := h; h.len
theorem LnB.humSz {L : Ln} (h : LnB L) {p : Nat} (hp : p ≤ 8) : ∀ q ∈ hum L p, Sz 500 q := fun q hq => by
  obtain ⟨c, ok, hc, _⟩ := h
  obtain ⟨r, hr, rfl⟩ := List.mem_map.mp (show q ∈ L.ms.map (· ^ p) from hq)
  refine ((ok.zm r hr).pow p).mono ?_
  have : p * c ≤ 8 * 60 := Nat.mul_le_mul hp hc
  omega
theorem LnB.lsSz {L : Ln} (h : LnB L) : ∀ q ∈ L.ls, Sz 60 q := fun q hq => let ⟨_, ok, hc, _⟩ := h; (ok.zl q hq).mono hc
theorem LnB.noise {L : Ln} (h : LnB L) {s : List Int} (hs : Signs s) (hl : s.length = L.ls.length) {p : Nat} (hp : p ≤ 8) : NzOk L.ls s (hum L p) := by
  refine ⟨hs, hl, by unfold hum; rw [List.length_map, ← h.len, hl], 60, 500, h.lsSz, h.humSz hp, ?_⟩
  have := h.n8
  have : s.length * (60 + 500 + 1) ≤ 8 * (60 + 500 + 1) := Nat.mul_le_mul_right _ (by omega)
  omega
def PowOk (l : List Rat) (p : Nat) : Prop := p ≤ 23 ∧ ∃ m, (∀ q ∈ l, Sz m q) ∧ (p + 1) * m + 1 ≤ 9000
theorem LnB.pow {L : Ln} (h : LnB L) {p : Nat} (hp : p ≤ 8) : PowOk L.ms p := by
  obtain ⟨c, ok, hc, _⟩ := h
  refine ⟨by omega, c, ok.zm, ?_⟩
  have : (p + 1) * c ≤ 9 * 60 := Nat.mul_le_mul (by omega) hc
  omega
section
variable {P : Program} {w : World} {K : PySem.W.Frag} {mg : Str → Option Value} {base : Heap}
/-! ### mark_hum, _law_mark_hum -/
abbrev spMarkHum (K : PySem.W.Frag) : Sp := spT (α := Ln × Nat) (fun x => [tLine K x.1, tI x.2]) (fun x => x.1.ms.length ≤ 24 ∧ PowOk x.1.ms x.2) (fun x => tQs K (hum x.1 x.2))
abbrev nMarkHum : List Str := ["line", "power", "mark"]
theorem sc_markHum : FnScope nMarkHum ["line", "power"] (defScope sMarkHum) := ⟨rfl, rfl, rfl, by decide +kernel, rfl, by decide +kernel, by decide +kernel⟩
theorem fn_markHum (T : Txt K mg) : Fn P w K mg base "mark_hum" 5 ["line", "power"] [] (spMarkHum K) := by
  refine fn_of' (st := sMarkHum) T.d_mark_hum (fun _ _ _ _ _ _ us h => match us, h with | [_, _], _ => rfl) sc_markHum (fun _ => rfl) fun f cdv Ar outer s H E x pre hr S D hR _ => ?_
  obtain ⟨L, p⟩ := x
  obtain ⟨l24, hp, m, hm, h9⟩ : L.ms.length ≤ 24 ∧ PowOk L.ms p := pre
  have nd := sc_markHum.nd
  show BTy _ _ _ _ [some (tLine K L), some (tI p), none] _ _
  refine bt_no (tt_not (tt_val (et_call (x := ((p : Int), some 0, some 23)) (fn_whole3 T) (hr.mono (by decide)) trivial (at_cons (et_var 1) (at_cons et_int (at_one (et_intG T.i_MOST_POWER))))))) ?_ ?_
  · simp [wholeB, loB, hiB]
    omega
  · refine bt_ret (et_tuple' T.f_tuple (et_eq (et_lcT (x := "mark") (k := 2) ⟨nd, blkOk_by (own := [("mark", 2)]) (N := nMarkHum) (sc := defScope sMarkHum) (by decide +kernel), rfl, rfl⟩ L.ms (tQ K) (fun q => tQ K (q ^ p)) (fun _ => true) (et_marks (L := L) T (et_var 0)) (by omega) (fun y _ => ifs_nil) (fun y hy _ s0 H0 C cl fp => et_call (x := (y, p)) (fn_powerOf T) hr ⟨by omega, m, hm y hy, h9⟩ (at_cons (et_var 2) (at_one (et_var 1))))) (congrArg (tLst K) (map_map_ty (f := tQ K) (g := fun q => q ^ p) L.ms)))) hR
abbrev spLMarkHum (K : PySem.W.Frag) : Sp := spT (α := Ln × Nat) (fun x => [tQs K x.1.ms, tI x.2]) (fun x => x.1.ms.length ≤ 24 ∧ PowOk x.1.ms x.2) (fun x => tQs K (hum x.1 x.2))
abbrev nLMarkHum : List Str := ["_law_marks", "_law_power_here", "_law_mark"]
theorem sc_lmarkHum : FnScope nLMarkHum ["_law_marks", "_law_power_here"] (defScope sLLawMarkHum) := ⟨rfl, rfl, rfl, by decide +kernel, rfl, by decide +kernel, by decide +kernel⟩
theorem fn_lmarkHum (T : Txt K mg) : Fn P w K mg base "_law_mark_hum" 2 ["_law_marks", "_law_power_here"] [] (spLMarkHum K) := by
  refine fn_of' (st := sLLawMarkHum) T.d__law_mark_hum (fun _ _ _ _ _ _ us h => match us, h with | [_, _], _ => rfl) sc_lmarkHum (fun _ => rfl) fun f cdv Ar outer s H E x pre hr S D hR _ => ?_
  obtain ⟨L, p⟩ := x
  obtain ⟨l24, hp, m, hm, h9⟩ : L.ms.length ≤ 24 ∧ PowOk L.ms p := pre
  have nd := sc_lmarkHum.nd
  show BTy _ _ _ _ [some (tQs K L.ms), some (tI p), none] _ _
  refine bt_ret (et_tuple' T.f_tuple (et_eq (et_lcT (x := "_law_mark") (k := 2) ⟨nd, blkOk_by (own := [("_law_mark", 2)]) (N := nLMarkHum) (sc := defScope sLLawMarkHum) (by decide +kernel), rfl, rfl⟩ L.ms (tQ K) (fun q => tQ K (q ^ p)) (fun _ => true) (et_var 0) (by omega) (fun y _ => ifs_nil) (fun y hy _ s0 H0 C cl fp => et_call (x := (y, p)) (fn_lpower T) (hr.mono (by decide)) ⟨by omega, m, hm y hy, h9⟩ (at_cons (et_var 2) (at_one (et_var 1))))) (congrArg (tLst K) (map_map_ty (f := tQ K) (g := fun q => q ^ p) L.ms)))) hR
/-! ### _law_order -/
/-- the noise of a word at a power -/
def nz (L : Ln) (s : List Int) (p : Nat) : Rat := noise L.ls s (hum L p)
def lawOrd (L : Ln) (s : List Int) : Nat := ((List.range s.length).find? fun p => decide (nz L s p ≠ 0)).getD s.length
theorem lawOrd_at {L : Ln} {s : List Int} {n : Nat} (hn : n < s.length) (h0 : ∀ j, j < n → nz L s j = 0) (h : nz L s n ≠ 0) : lawOrd L s = n := by
  unfold lawOrd
  have e : (List.range s.length).find? (fun p => decide (nz L s p ≠ 0)) = some n := by
    rw [List.find?_range_eq_some]
    exact ⟨by simpa using h, by simpa using hn, fun j hj => by simpa using h0 j hj⟩
  rw [e]
  rfl
theorem lawOrd_no {L : Ln} {s : List Int} (h0 : ∀ j, j < s.length → nz L s j = 0) : lawOrd L s = s.length := by
  unfold lawOrd
  have e : (List.range s.length).find? (fun p => decide (nz L s p ≠ 0)) = none := by
    rw [List.find?_range_eq_none]
    exact fun j hj => by simpa using h0 j hj
  rw [e]
  rfl
abbrev spLOrder (K : PySem.W.Frag) : Sp := spT (α := Ln × List Int) (fun x => [tQs K x.1.ls, tQs K x.1.ms, tW K x.2]) (fun x => LnB x.1 ∧ Signs x.2 ∧ x.2.length = x.1.ls.length) (fun x => tI (lawOrd x.1 x.2 : Nat))
theorem sc_lorder : FnScope ["_law_lengths", "_law_marks", "_law_word", "_law_power_here"] ["_law_lengths", "_law_marks", "_law_word"] (defScope sLLawOrder) := ⟨rfl, rfl, rfl, by decide +kernel, rfl, by decide +kernel, by decide +kernel⟩
theorem tWhen_le {T : Ty} {P : Prop} : (tWhen T P).le T := fun _ _ h => h.1
theorem le_tWhen {T : Ty} {P : Prop} (h : P) : T.le (tWhen T P) := fun _ _ z => ⟨z, h⟩
theorem fn_lorder (T : Txt K mg) : Fn P w K mg base "_law_order" 5 ["_law_lengths", "_law_marks", "_law_word"] [] (spLOrder K) := by
  refine fn_of' (st := sLLawOrder) T.d__law_order (fun _ _ _ _ _ _ us h => match us, h with | [_, _, _], _ => rfl) sc_lorder (fun _ => rfl) fun f cdv Ar outer s H E x pre hr S D hR _ => ?_
  obtain ⟨L, s'⟩ := x
  obtain ⟨hB, hs, hl⟩ : LnB L ∧ Signs s' ∧ s'.length = L.ls.length := pre
  have nd := sc_lorder.nd
  have n8 := hB.n8
  have hlen := hB.len
  show BTy _ _ _ _ [some (tQs K L.ls), some (tQs K L.ms), some (tW K s'), none] _ _
  refine bt_forR 3 s'.length (fun n => [some (tQs K L.ls), some (tQs K L.ms), some (tWhen (tW K s') (∀ j, j < n → nz L s' j = 0)), none]) (fun _ => []) nd PassesOwn.never T.f_range (et_eq (et_lenT T.f_len (et_var 2)) (by rw [List.length_map])) (by omega) (el_eq (el_eq (el_le (le_tWhen (fun j hj => absurd hj (Nat.not_lt_zero _))) (el_no el_nil)))) rfl (fun S1 H1 g n hn => ?_) ?_
  · refine bt_when (T := tW K s') 2 rfl fun h0 => ?_
    show BTy _ _ _ _ [some (tQs K L.ls), some (tQs K L.ms), some (tW K s'), some (tI (n : Nat))] _ _
    refine bt_lv (k := decide (nz L s' n ≠ 0)) (tt_eq (tt_ne (et_q0 (et_call (x := (L.ls, s', hum L n)) (fn_lnoise T) hr (hB.noise hs hl (by omega)) (at_cons (et_var 0) (at_cons (et_var 2) (at_one (et_call (x := (L, n)) (fn_lmarkHum T) (hr.mono (by decide)) ⟨show L.ms.length ≤ 24 by omega, hB.pow (by omega)⟩ (at_cons (et_var 1) (at_one (et_var 3))))))))) et_int) ?_) (fun h => ?_) fun h => ?_
    · rw [ne_dec]
      show decide ((nz L s' n).num ≠ 0) = _
      by_cases z : nz L s' n = 0
      · rw [z]; simp
      · rw [decide_eq_true z]
        exact decide_eq_true fun q => z (Rat.num_eq_zero.mp q)
    · refine bt_ret (et_eq (et_var 3) ?_) (hR.rebase g)
      rw [show lawOrd (L, s').1 (L, s').2 = n from lawOrd_at hn h0 (of_decide_eq_true h)]
    · refine bt_turn (fun _ _ h => h) (el_eq (el_eq (el_le (le_tWhen fun j hj => ?_) (el_no el_nil))))
      rcases Nat.lt_succ_iff_lt_or_eq.mp hj with z | z
      · exact h0 j z
      · rw [z]
        have := of_decide_eq_false h
        exact Decidable.not_not.mp this
  · refine bt_when (T := tW K s') 2 rfl fun h0 => ?_
    show BTy _ _ _ _ [some (tQs K L.ls), some (tQs K L.ms), some (tW K s'), none] _ _
    refine bt_ret (et_eq (et_lenT T.f_len (et_var 2)) ?_) hR
    rw [List.length_map, show lawOrd (L, s').1 (L, s').2 = s'.length from lawOrd_no h0]
end
end K79
set_option Elab.async false
set_option linter.all false
set_option maxRecDepth 100000
/-! D9: spans. -/
namespace K79
open PySem L2
open PyProof.Rows (envOfC)
section
variable {P : Program} {w : World} {K : PySem.W.Frag} {mg : Str → Option Value} {base : Heap}
/-! ### are_ratios -/
abbrev spAreRatios (K : PySem.W.Frag) : Sp := spT (α := List Rat) (fun l => [tQs K l, tI 1, tI 24]) (fun l => 1 ≤ l.length ∧ l.length ≤ 24) (fun _ => tBl true)
theorem sc_areRatios : FnScope ["row", "low", "high", "entry"] ["row", "low", "high"] (defScope sAreRatios) := ⟨rfl, rfl, rfl, by decide +kernel, rfl, by decide +kernel, by decide +kernel⟩
theorem fn_areRatios (T : Txt K mg) : Fn P w K mg base "are_ratios" 3 ["row", "low", "high"] [] (spAreRatios K) := by
  refine fn_of' (st := sAreRatios) T.d_are_ratios (fun _ _ _ _ _ _ us h => match us, h with | [_, _, _], _ => rfl) sc_areRatios (fun _ => rfl) fun f cdv Ar outer s H E l pre hr S D hR _ => ?_
  obtain ⟨h1, h2⟩ : 1 ≤ l.length ∧ l.length ≤ 24 := pre
  have nd := sc_areRatios.nd
  show BTy _ _ _ _ [some (tQs K l), some (tI 1), some (tI 24), none] _ _
  refine bt_no (tt_w (wt_or2 (tt_not (tt_val (et_isiS T.f_isinstance T.f_list T.f_tuple (et_le (et_var 0) tQs_S)))) (fun _ => wt_or1 (tt_not (tt_chain (et_var 1) (et_lenT T.f_len (et_var 0)) (et_var 2)))))) ?_ ?_
  · rw [List.length_map, decide_eq_true (by omega), decide_eq_true (by omega)]
    rfl
  refine bt_forT (ts := l.map (tQ K)) 3 (fun _ => [some (tQs K l), some (tI 1), some (tI 24), none]) (fun _ => []) nd PassesOwn.never (et_var 0) (.refl _) rfl (fun S1 H1 g n U hU => ?_) (bt_ret et_bl hR)
  obtain ⟨q, e, rfl⟩ := at_map hU
  refine bt_no (tt_not (tt_val (et_call (x := q) (fn_isRatio T) hr trivial (at_one (et_var 3))))) rfl ?_
  exact bt_turn (fun _ _ h => h) (el_eq (el_eq (el_eq (el_no el_nil))))
/-! ### Span -/
structure SpOk (hs : List (List Rat)) (n : Nat) : Prop where
  l1 : 1 ≤ hs.length
  l6 : hs.length ≤ 6
  n1 : 1 ≤ n
  n24 : n ≤ 24
  len : ∀ l ∈ hs, l.length = n
abbrev spanF (K : PySem.W.Frag) (hs : List (List Rat)) : List (Str × Ty) := [("hums", tTup K (hs.map (tQs K)))]
abbrev tSpan (K : PySem.W.Frag) (hs : List (List Rat)) : Ty := tIns (He.ga K "Span") (spanF K hs)
abbrev spanI (K : PySem.W.Frag) : Addr := He.ma K (He.ga K "Span") "__init__"
theorem sc_spanInit : FnScope ["self", "hums", "kept", "index", "told"] ["self", "hums"] (defScope sSpanInit) := ⟨rfl, rfl, rfl, by decide +kernel, rfl, by decide +kernel, by decide +kernel⟩
theorem hs0 {hs : List (List Rat)} (h : 1 ≤ hs.length) : hs[0]? = some (hs.headD []) := by
  cases hs with
  | nil => simp at h
  | cons x r => rfl
theorem hs0_mem {hs : List (List Rat)} (h : 1 ≤ hs.length) : hs.headD [] ∈ hs := List.mem_of_getElem? (hs0 h)
theorem fn_spanInit (T : Txt K mg) : FnA P w K mg base (spanI K) 4 ["self", "hums"] (spI (α := List (List Rat)) (He.ga K "Span") (fun hs => [tLst K (hs.map (tQs K))]) (fun hs => ∃ n, SpOk hs n) (spanF K)) := by
  refine fna_init (st := sSpanInit) T.d_Span___init__ (fun _ _ _ _ _ _ us h => match us, h with | [_, _], _ => rfl) sc_spanInit (fun _ => rfl) fun f cdv Ar outer s Hc E hs pre hr S H0 p dx D hend => ?_
  obtain ⟨N, ok⟩ := pre
  have nd := sc_spanInit.nd
  have l1 := ok.l1
  have l6 := ok.l6
  have n1 := ok.n1
  have n24 := ok.n24
  show BTy _ _ _ _ [some (tV (.ref p)), some (tLst K (hs.map (tQs K))), none, none, none] _ _
  refine bt_no (tt_w (wt_or2 (tt_not (tt_val (et_isiS T.f_isinstance T.f_list T.f_tuple (et_le (et_var 1) tLst_seq)))) (fun _ => wt_or1 (tt_not (tt_chain et_int (et_lenL T.f_len (et_var 1)) (et_intG T.i_MOST_HUMS)))))) ?_ ?_
  · rw [List.length_map, decide_eq_true (by omega), decide_eq_true (by omega)]
    rfl
  refine bt_newL 2 nd fun q => ?_
  refine bt_forE (ts := hs.map (tQs K)) 3 4 (fun _ => [some (tV (.ref p)), some (tLst K (hs.map (tQs K))), some (tV (.ref q)), none, none]) (fun n => [(q, oL ((hs.take n).map (tQs K))), (p, oIn (He.ga K "Span") dx [])]) nd PassesOwn.never (pi_enum rfl T.f_enumerate pa_w) (enTy_L (et_var 1)) (.refl _) rfl (fun S1 H1 g n U hU => ?_) ?_
  · obtain ⟨l, e, rfl⟩ := at_map hU
    have hl := ok.len l (List.mem_of_getElem? e)
    have h0 := ok.len _ (hs0_mem l1)
    refine bt_no (tt_w (wt_or2 (tt_not (tt_val (et_call (x := l) (fn_areRatios T) hr (show 1 ≤ l.length ∧ l.length ≤ 24 by omega) (at_cons (et_var 4) (at_cons et_int (at_one (et_intG T.i_MOST_SECTIONS))))))) (fun _ => wt_or1 (tt_ne (et_lenT T.f_len (et_var 4)) (et_lenT (ts := (hs.headD []).map (tQ K)) T.f_len (et_ixL (T := tQs K (hs.headD [])) (ts := hs.map (tQs K)) (k := 0) (et_var 1) et_int rfl (map_at (hs0 l1)))))))) ?_ ?_
    · rw [List.length_map, List.length_map, hl, h0, dec_self]
      rfl
    · refine bt_app (T := tQs K l) 0 rfl (et_var 2) (et_tupleS T.f_tuple (et_le (et_var 4) tQs_S)) (by rw [List.length_map, List.length_take]; omega) ?_
      refine bt_nil fun σ S H g e' o => ⟨S, g, e'.le (el_eq (el_eq (el_eq (el_no (el_no el_nil))))), ?_⟩
      rw [List.take_add_one, e, List.map_append]
      exact o
  · refine bt_frzL 2 rfl ?_
    rw [List.length_map, List.take_length]
    refine bt_store 0 rfl T.clsSpan T.no_hums (et_var 0) (et_tuple' T.f_tuple (et_var 2)) rfl (by decide) ?_
    exact bt_nil fun σ S' H' g _ oo => hend σ S' H' g oo
theorem et_hums {X : Cx} {O : Owns} {Γ : Env} {a : Expr} {pos : Pos} {hs : List (List Rat)} (T : Txt X.K X.mg) (ha : ETy X O Γ a (tSpan X.K hs)) (hb : attributeBase a "hums" X.env (eval a X.env) = eval a X.env := by rfl) : ETy X O Γ (.Attribute a "hums" pos) (tTup X.K (hs.map (tQs X.K))) := et_fld ha (proj_ins T.clsSpan T.no_hums rfl) hb
/-! sections -/
abbrev spSec (K : PySem.W.Frag) : Sp := spT (α := List (List Rat) × Nat) (fun x => [tSpan K x.1]) (fun x => SpOk x.1 x.2) (fun x => tI x.2)
theorem sc_sections : FnScope ["self"] ["self"] (defScope sSpanSections) := ⟨rfl, rfl, rfl, by decide +kernel, rfl, by decide +kernel, by decide +kernel⟩
theorem fn_sections (T : Txt K mg) : FnA P w K mg base (secG K) 1 ["self"] (spSec K) := by
  refine fna_of (st := sSpanSections) T.d_sections (fun _ _ _ _ _ _ us h => match us, h with | [_], _ => rfl) sc_sections (fun _ => rfl) fun f cdv Ar outer s H E x pre hr S D hR _ => ?_
  obtain ⟨hs, N⟩ := x
  have ok : SpOk hs N := pre
  show BTy _ _ _ _ [some (tSpan K hs)] _ _
  exact bt_ret (et_eq (et_lenT (ts := (hs.headD []).map (tQ K)) T.f_len (et_ixT (T := tQs K (hs.headD [])) (ts := hs.map (tQs K)) (k := 0) (et_hums T (et_var 0)) et_int rfl (map_at (hs0 ok.l1)))) (by rw [List.length_map, ok.len _ (hs0_mem ok.l1)])) hR
/-! ### check_span, degree_span -/
abbrev spCheckSpan (K : PySem.W.Frag) : Sp := spT (α := Ln × List (List Rat)) (fun x => [tLine K x.1, tSpan K x.2]) (fun x => SpOk x.2 x.1.ls.length) (fun x => tSpan K x.2)
theorem sc_checkSpan : FnScope ["line", "span"] ["line", "span"] (defScope sCheckSpan) := ⟨rfl, rfl, rfl, by decide +kernel, rfl, by decide +kernel, by decide +kernel⟩
theorem fn_checkSpan (T : Txt K mg) : Fn P w K mg base "check_span" 3 ["line", "span"] [] (spCheckSpan K) := by
  refine fn_of' (st := sCheckSpan) T.d_check_span (fun _ _ _ _ _ _ us h => match us, h with | [_, _], _ => rfl) sc_checkSpan (fun _ => rfl) fun f cdv Ar outer s H E x pre hr S D hR _ => ?_
  obtain ⟨L, hs⟩ := x
  have ok : SpOk hs L.ls.length := pre
  show BTy _ _ _ _ [some (tLine K L), some (tSpan K hs)] _ _
  refine bt_no (tt_ne (et_prop T.clsSpan T.propSec (fn_sections T) hr (hs, L.ls.length) ok rfl (et_var 1)) (et_lenLine (L := L) T hr ok.n24 (et_var 0))) ?_ ?_
  · rw [dec_self]; rfl
  · exact bt_ret (et_var 1) hR
def hums (L : Ln) (d : Nat) : List (List Rat) := (List.range d).map (hum L)
theorem hums_ok {L : Ln} (h : LnB L) {d : Nat} (h1 : 1 ≤ d) (h6 : d ≤ 6) : SpOk (hums L d) L.ls.length := by
  have := h.n8
  refine ⟨by simpa [hums] using h1, by simpa [hums] using h6, h.l1, by omega, fun l hl => ?_⟩
  obtain ⟨p, _, rfl⟩ := List.mem_map.mp (show l ∈ (List.range d).map (hum L) from hl)
  unfold hum
  rw [List.length_map, h.len]
abbrev spDegree (K : PySem.W.Frag) : Sp := spT (α := Ln × Nat) (fun x => [tLine K x.1, tI x.2]) (fun x => LnB x.1 ∧ 1 ≤ x.2 ∧ x.2 ≤ 6) (fun x => tSpan K (hums x.1 x.2))
abbrev nDegree : List Str := ["line", "degree", "power"]
theorem sc_degree : FnScope nDegree ["line", "degree"] (defScope sDegreeSpan) := ⟨rfl, rfl, rfl, by decide +kernel, rfl, by decide +kernel, by decide +kernel⟩
theorem fn_degree (T : Txt K mg) : Fn P w K mg base "degree_span" 6 ["line", "degree"] [] (spDegree K) := by
  refine fn_of' (st := sDegreeSpan) T.d_degree_span (fun _ _ _ _ _ _ us h => match us, h with | [_, _], _ => rfl) sc_degree (fun _ => rfl) fun f cdv Ar outer s H E x pre hr S D hR _ => ?_
  obtain ⟨L, d⟩ := x
  obtain ⟨hB, h1, h6⟩ : LnB L ∧ 1 ≤ d ∧ d ≤ 6 := pre
  have nd := sc_degree.nd
  have n8 := hB.n8
  have hlen := hB.len
  show BTy _ _ _ _ [some (tLine K L), some (tI d), none] _ _
  refine bt_no (tt_not (tt_val (et_call (x := ((d : Int), some 1, some 6)) (fn_whole3 T) (hr.mono (by decide)) trivial (at_cons (et_var 1) (at_cons et_int (at_one (et_intG T.i_MOST_HUMS))))))) ?_ ?_
  · simp [wholeB, loB, hiB]
    omega
  · refine bt_ret (et_make T.mkSpan (fn_spanInit T) T.g_Span hr (hums L d) ⟨_, hums_ok hB h1 h6⟩ (at_one (et_eq (et_lcR1 (x := "power") (k := 2) ⟨nd, blkOk_by (own := [("power", 2)]) (N := nDegree) (sc := defScope sDegreeSpan) (by decide +kernel), rfl, rfl⟩ d (fun p => tQs K (hum L p)) (fun _ => true) T.f_range (et_var 1) (by omega) (fun p hp => ifs_nil) (fun p hp _ s0 H0 C cl fp => et_call (x := (L, p)) (fn_markHum T) hr ⟨show L.ms.length ≤ 24 by omega, hB.pow (by omega)⟩ (at_cons (et_var 0) (at_one (et_var 2))))) (congrArg (tLst K) (map_map_ty (f := tQs K) (g := hum L) (List.range d)))))) hR
/-! ### check_asked, told_hums -/
abbrev spCheckAsked (K : PySem.W.Frag) : Sp := spCheckSpan K
theorem sc_checkAsked : FnScope ["line", "span"] ["line", "span"] (defScope sCheckAsked) := ⟨rfl, rfl, rfl, by decide +kernel, rfl, by decide +kernel, by decide +kernel⟩
theorem fn_checkAsked (T : Txt K mg) : Fn P w K mg base "check_asked" 4 ["line", "span"] [] (spCheckAsked K) := by
  refine fn_of' (st := sCheckAsked) T.d_check_asked (fun _ _ _ _ _ _ us h => match us, h with | [_, _], _ => rfl) sc_checkAsked (fun _ => rfl) fun f cdv Ar outer s H E x pre hr S D hR _ => ?_
  obtain ⟨L, hs⟩ := x
  have ok : SpOk hs L.ls.length := pre
  show BTy _ _ _ _ [some (tLine K L), some (tSpan K hs)] _ _
  refine bt_if (tt_notN_ref tRefly_ins (et_var 1)) (fun _ => ?_) (fun h => by cases h)
  refine bt_expr (et_call (x := (L, hs)) (fn_checkSpan T) hr ok (at_cons (et_var 0) (at_one (et_var 1)))) ?_
  exact bt_on (bt_ret (et_var 1) hR)
abbrev spTold (K : PySem.W.Frag) : Sp := spT (α := Ln × List (List Rat)) (fun x => [tLine K x.1, tSpan K x.2]) (fun x => SpOk x.2 x.1.ls.length) (fun x => tTup K (x.2.map (tQs K)))
theorem sc_told : FnScope ["line", "span"] ["line", "span"] (defScope sToldHums) := ⟨rfl, rfl, rfl, by decide +kernel, rfl, by decide +kernel, by decide +kernel⟩
theorem fn_told (T : Txt K mg) : Fn P w K mg base "told_hums" 5 ["line", "span"] [] (spTold K) := by
  refine fn_of' (st := sToldHums) T.d_told_hums (fun _ _ _ _ _ _ us h => match us, h with | [_, _], _ => rfl) sc_told (fun _ => rfl) fun f cdv Ar outer s H E x pre hr S D hR _ => ?_
  obtain ⟨L, hs⟩ := x
  have ok : SpOk hs L.ls.length := pre
  show BTy _ _ _ _ [some (tLine K L), some (tSpan K hs)] _ _
  refine bt_expr (et_call (x := (L, hs)) (fn_checkAsked T) hr ok (at_cons (et_var 0) (at_one (et_var 1)))) ?_
  exact bt_ret (et_if (tt_isN_ref tRefly_ins (et_var 1)) (fun h => by cases h) (fun _ => et_hums T (et_var 1))) hR
/-! ### heard_by: nothing is heard -/
abbrev spHeard (K : PySem.W.Frag) : Sp := spT (α := Ln × List Int × List (List Rat)) (fun x => [tLine K x.1, tWS K x.2.1, tSpan K x.2.2]) (fun x => Word x.2.1 ∧ x.2.1.length = x.1.ls.length ∧ SpOk x.2.2 x.1.ls.length ∧ ∀ h ∈ x.2.2, NzOk x.1.ls x.2.1 h ∧ noise x.1.ls x.2.1 h = 0) (fun _ => tNo)
theorem sc_heard : FnScope ["line", "word", "span", "signs", "at", "told", "noise"] ["line", "word", "span"] (defScope sHeardBy) := ⟨rfl, rfl, rfl, by decide +kernel, rfl, by decide +kernel, by decide +kernel⟩
theorem fn_heard (T : Txt K mg) : Fn P w K mg base "heard_by" 6 ["line", "word", "span"] [] (spHeard K) := by
  refine fn_of' (st := sHeardBy) T.d_heard_by (fun _ _ _ _ _ _ us h => match us, h with | [_, _, _], _ => rfl) sc_heard (fun _ => rfl) fun f cdv Ar outer s H E x pre hr S D hR _ => ?_
  obtain ⟨L, s', hs⟩ := x
  obtain ⟨hw, hl, ok, h0⟩ : Word s' ∧ s'.length = L.ls.length ∧ SpOk hs L.ls.length ∧ ∀ h ∈ hs, NzOk L.ls s' h ∧ noise L.ls s' h = 0 := pre
  have nd := sc_heard.nd
  show BTy _ _ _ _ [some (tLine K L), some (tWS K s'), some (tSpan K hs), none, none, none, none] _ _
  refine bt_set 3 nd (et_call (x := (L, s')) (fn_checkWord T) (hr.mono (by decide)) ⟨hw, hl⟩ (at_cons (et_var 0) (at_one (et_var 1)))) ?_
  refine bt_expr (et_call (x := (L, hs)) (fn_checkSpan T) (hr.mono (by decide)) ok (at_cons (et_var 0) (at_one (et_var 2)))) ?_
  refine bt_forE (ts := hs.map (tQs K)) 4 5 (fun _ => [some (tLine K L), some (tWS K s'), some (tSpan K hs), some (tW K s'), none, none, none]) (fun _ => []) nd PassesOwn.never (pi_enumT rfl T.f_enumerate pa_w) (enTy_T (et_hums T (et_var 2))) (.refl _) rfl (fun S1 H1 g n U hU => ?_) (bt_ret et_non hR)
  obtain ⟨l, e, rfl⟩ := at_map hU
  obtain ⟨hz, h00⟩ := h0 l (List.mem_of_getElem? e)
  refine bt_set 6 nd (et_call (x := (L, s', l)) (fn_weigh T) hr hz (at_cons (et_var 0) (at_cons (et_var 3) (at_one (et_var 5))))) ?_
  refine bt_no (tt_neD (units64 hr) dp_q dp_q (qD_shaped _) (qD_shaped _) (et_var 6) (et_zero T)) ?_ ?_
  · rw [eqv_q]
    simp [h00]
  · exact bt_turn (fun _ _ h => h) (el_eq (el_eq (el_eq (el_eq (el_no (el_no (el_no el_nil)))))))
end
end K79
set_option Elab.async false
set_option linter.all false
set_option maxRecDepth 100000
/-! KV: y = [..] on one line. -/
namespace K79
open PySem L2
section
variable {X : Cx} {S0 H0 : Hp} {O : Owns} {Γ : Env} {D : Ends} {e iter : Expr} {ifs : List Expr} {rest : List Stmt} {T : Ty} {x y z : Str} {px py pz pt pos spos : Pos} {kt : Nat} {sc : Scope} {i j k : Nat} {wi : TI} {ts rs : List Ty}
theorem bt_setLc (i : Nat) (hO : LcOk X sc x k) (hpi : PI X (.Name x px) iter wi) (he : RTy (tLc wi (gName k) (wIfs X sc ifs) (wB X sc e) [k]) O Γ T) (hr : BTy X S0 H0 O (Γ.set i (some T)) rest D) (hsw : swapsWith (.ListComp e [⟨.Name x px, iter, ifs, 0⟩] sc pos) (some (.Name y py)) spos.line X.env = pure true := by rfl) (hy : X.N[i]? = some y := by rfl)
    (hyl : X.env.scope.names.lookup y = some .local := by rfl) (hc : X.calm = true := by rfl) (hs : ∀ x, foldedSetIterable iter X.env x = pure x := by intro _; rfl) : BTy X S0 H0 O Γ (.Assign [.Name y py] (.ListComp e [⟨.Name x px, iter, ifs, 0⟩] sc pos) spos :: rest) D :=
  bt_setR i (ps_setLc hc hO.nd hy hyl hsw hpi hO.ok hO.pg pts_w pe_wB hs) he hr
theorem bt_setLcE (i : Nat) {m n : Nat} (hmn : m ≠ n) (hO : LcOk2 X sc x z m n) (hpi : PI X (.Tuple [.Name x px, .Name z pz] kt pt) iter wi) (hi : EnTy wi O Γ ts) (hl : rs.length = ts.length) (hl9 : ts.length ≤ 99999) (he : ∀ q U W, ts[q]? = some U → rs[q]? = some W → BlkE X sc O ((Γ.set m (some (tI (q : Nat)))).set n (some U)) e W) (hr : BTy X S0 H0 O (Γ.set i (some (tLst X.K rs))) rest D)
    (hsw : swapsWith (.ListComp e [⟨.Tuple [.Name x px, .Name z pz] kt pt, iter, [], 0⟩] sc pos) (some (.Name y py)) spos.line X.env = pure true := by rfl) (hy : X.N[i]? = some y := by rfl)
    (hyl : X.env.scope.names.lookup y = some .local := by rfl) (hc : X.calm = true := by rfl) (hs : ∀ x, foldedSetIterable iter X.env x = pure x := by intro _; rfl) : BTy X S0 H0 O Γ (.Assign [.Name y py] (.ListComp e [⟨.Tuple [.Name x px, .Name z pz] kt pt, iter, [], 0⟩] sc pos) spos :: rest) D :=
  bt_setR i (ps_setLc hc hO.nd hy hyl hsw hpi hO.ok (hO.pg hc) pts_w pe_wB hs) (rt_lcE m n hmn hi hl hl9 he) hr
end
end K79
set_option Elab.async false
set_option linter.all false
set_option maxRecDepth 100000
/-! D10: the law's looks at words; the bar; orders. -/
namespace K79
open PySem L2
open PyProof.Rows (envOfC)
section
variable {P : Program} {w : World} {K : PySem.W.Frag} {mg : Str → Option Value} {base : Heap}
/-! ### _law_is_word -/
theorem inV_signs {x : Int} (h : x = 1 ∨ x = -1) : inV (.int x) [.int 1, .int (-1)] = true := by
  rcases h with rfl | rfl <;> decide
abbrev spLIsWord (K : PySem.W.Frag) : Sp := spT (α := List Int) (fun s => [tW K s, tI (s.length : Nat)]) Word (fun _ => tBl true)
abbrev nLIsWord : List Str := ["_law_thing", "_law_many", "_law_one"]
theorem sc_lisword : FnScope nLIsWord ["_law_thing", "_law_many"] (defScope sLLawIsWord) := ⟨rfl, rfl, rfl, by decide +kernel, rfl, by decide +kernel, by decide +kernel⟩
theorem tt_notIn1 {X : Cx} {O : Owns} {Γ : Env} {a : Expr} {x : Int} {p1 p2 p3 pt pos : Pos} {k1 k2 kt : Nat} (hx : x = 1 ∨ x = -1) (ha : ETy X O Γ a (tI x)) (h : ATy X O Γ [.Constant (.int 1) k1 p1, .UnaryOp .USub (.Constant (.int 1) k2 p2) p3] [tI 1, tI (-1)]) : TTy X O Γ (.Compare a [.NotIn] [.Tuple [.Constant (.int 1) k1 p1, .UnaryOp .USub (.Constant (.int 1) k2 p2) p3] kt pt] pos) false :=
  tt_cmp op_notIn_seq ha (et_tup h) (fun u v S H Q h1 ⟨p, vs, h2, h3, h4⟩ i q => by
    have h1 : u = .int x := h1
    obtain ⟨v1, v2, rfl, e1, e2⟩ := all2_2 h4
    have e1 : v1 = .int 1 := e1
    have e2 : v2 = .int (-1) := e2
    subst h1 h2 e1 e2
    exact ⟨p, _, rfl, .inr (same_t i h3), rfl, rfl, q _ S H (.refl i) (by rw [inV_signs hx]; rfl)⟩) rfl
theorem fn_lisword (T : Txt K mg) : Fn P w K mg base "_law_is_word" 1 ["_law_thing", "_law_many"] [] (spLIsWord K) := by
  refine fn_of' (st := sLLawIsWord) T.d__law_is_word (fun _ _ _ _ _ _ us h => match us, h with | [_, _], _ => rfl) sc_lisword (fun _ => rfl) fun f cdv Ar outer s H E s' pre hr S D hR _ => ?_
  have pre : Word s' := pre
  have nd := sc_lisword.nd
  have l24 := pre.l24
  show BTy _ _ _ _ [some (tW K s'), some (tI (s'.length : Nat)), none] _ _
  refine bt_no (tt_w (wt_or2 (tt_not (tt_val (et_isi (n := "tuple") (N1 := "tuple") (b := true) T.f_isinstance T.f_tuple (by decide +kernel) (by decide +kernel) isTy_tup (et_var 0)))) (fun _ => wt_or2 (tt_ne (et_lenT T.f_len (et_var 0)) (et_var 1)) (fun _ => wt_or1 (tt_ne (et_ixT (k := 0) (et_var 0) et_int rfl (map_at pre.hd)) et_int))))) ?_ ?_
  · rw [List.length_map, dec_self]
    rfl
  · refine bt_ret (et_eq (et_notL (ts := ((s'.filter fun _ => false).map fun _ => tI 1)) (et_lcT (x := "_law_one") (k := 2) ⟨nd, blkOk_by (own := [("_law_one", 2)]) (N := nLIsWord) (sc := defScope sLLawIsWord) (by decide +kernel), rfl, rfl⟩ s' tI (fun _ => tI 1) (fun _ => false) (et_var 0) (by omega) (fun y hy => ifs_one fun s0 H0 C cl fp => ?_) (fun y hy z => by cases z))) ?_) hR
    · exact tt_eq (tt_w (wt_or2 (tt_val (et_isi (n := "int") (N1 := "bool") (b := false) T.f_isinstance T.f_bool (by decide +kernel) (by decide +kernel) isTy_int (et_var 2))) (fun _ => wt_or2 (tt_not (tt_val (et_isi (n := "int") (N1 := "int") (b := true) T.f_isinstance T.f_int (by decide +kernel) (by decide +kernel) isTy_int (et_var 2)))) (fun _ => wt_or1 (tt_notIn1 (pre.sg y hy) (et_var 2) (at_cons et_int (at_one (et_eq (et_neg et_int) rfl)))))))) rfl
    · rw [show (s'.filter fun _ => false) = [] from List.filter_eq_nil_iff.mpr fun _ _ => by simp]
      rfl
/-! ### _law_even, _law_built_line -/
def even (n : Nat) : Ln := ⟨(List.range n).map fun _ => 1, (List.range n).map fun k => ((k : Nat) : Rat)⟩
abbrev spLEven (K : PySem.W.Frag) : Sp := spT (α := Nat) (fun n => [tI n]) (fun n => n ≤ 99) (fun n => tLn K (even n))
abbrev nLEven : List Str := ["_law_count", "_law_k"]
theorem sc_leven : FnScope nLEven ["_law_count"] (defScope sLLawEven) := ⟨rfl, rfl, rfl, by decide +kernel, rfl, by decide +kernel, by decide +kernel⟩
theorem tQ_nat {K : PySem.W.Frag} (k : Nat) : tTup K [tI (k : Nat), tI 1] = tQ K ((k : Nat) : Rat) := rfl
theorem fn_leven (T : Txt K mg) : Fn P w K mg base "_law_even" 1 ["_law_count"] [] (spLEven K) := by
  refine fn_of' (st := sLLawEven) T.d__law_even (fun _ _ _ _ _ _ us h => match us, h with | [_], _ => rfl) sc_leven (fun _ => rfl) fun f cdv Ar outer s H E n pre hr S D hR _ => ?_
  have pre : n ≤ 99 := pre
  have nd := sc_leven.nd
  show BTy _ _ _ _ [some (tI n), none] _ _
  have hO : ∀ {X : Cx}, X.N.Nodup → X.N = nLEven → X.env.scope = defScope sLLawEven → True := fun _ _ _ => trivial
  refine bt_ret (et_tup (at_cons (et_tuple' T.f_tuple (et_eq (et_lcR1 (x := "_law_k") (k := 1) ⟨nd, blkOk_by (own := [("_law_k", 1)]) (N := nLEven) (sc := defScope sLLawEven) (by decide +kernel), rfl, rfl⟩ n (fun _ => tQ K 1) (fun _ => true) T.f_range (et_var 0) (by omega) (fun j hj => ifs_nil) (fun j hj _ s0 H0 C cl fp => et_tup (at_cons et_int (at_one et_int)))) (congrArg (tLst K) (map_map_ty (f := tQ K) (g := fun _ => 1) (List.range n))))) (at_one (et_tuple' T.f_tuple (et_eq (et_lcR1 (x := "_law_k") (k := 1) ⟨nd, blkOk_by (own := [("_law_k", 1)]) (N := nLEven) (sc := defScope sLLawEven) (by decide +kernel), rfl, rfl⟩ n (fun k => tQ K ((k : Nat) : Rat)) (fun _ => true) T.f_range (et_var 0) (by omega) (fun j hj => ifs_nil) (fun j hj _ s0 H0 C cl fp => et_tup (at_cons (et_var 1) (at_one et_int)))) (congrArg (tLst K) (map_map_ty (f := tQ K) (g := fun k => ((k : Nat) : Rat)) (List.range n)))))))) hR
abbrev spLBuilt (K : PySem.W.Frag) : Sp := spT (α := Ln) (fun L => [tLn K L]) OkLn (fun L => tLine K L)
theorem sc_lbuilt : FnScope ["_law_line_here"] ["_law_line_here"] (defScope sLLawBuiltLine) := ⟨rfl, rfl, rfl, by decide +kernel, rfl, by decide +kernel, by decide +kernel⟩
theorem fn_lbuilt (T : Txt K mg) : Fn P w K mg base "_law_built_line" 6 ["_law_line_here"] [] (spLBuilt K) := by
  refine fn_of' (st := sLLawBuiltLine) T.d__law_built_line (fun _ _ _ _ _ _ us h => match us, h with | [_], _ => rfl) sc_lbuilt (fun _ => rfl) fun f cdv Ar outer s H E L pre hr S D hR _ => ?_
  show BTy _ _ _ _ [some (tLn K L)] _ _
  exact bt_ret (et_line (L := L) T hr pre (et_le (et_list T.f_list (et_le (et_ixT (T := tQs K L.ls) (k := 0) (et_var 0) et_int rfl rfl) tQs_S)) tQl_S) (et_le (et_ixT (T := tQs K L.ms) (k := 1) (et_var 0) et_int rfl rfl) tQs_S)) hR
/-! ### length_bar -/
def pw (n : Nat) : Nat := [1, 1, 2, 1, 4, 1, 2, 1, 8].getD n 1
theorem pw_step : ∀ n : Fin 9, 1 ≤ n.1 → ∀ x ∈ [1, 2, 4, 8], n.1 % x = 0 → (n.1 % (2 * x) = 0 → 2 * x ∈ [1, 2, 4, 8] ∧ x < n.1) ∧ (n.1 % (2 * x) ≠ 0 → x = pw n.1) := by decide
def barV (n d : Nat) : V := if pw n ≤ d then .int ((pw n : Int) - 1) else .non
abbrev spBar : Sp := spT (α := Nat × Nat) (fun x => [tI x.1, tI x.2]) (fun x => 1 ≤ x.1 ∧ x.1 ≤ 8 ∧ x.2 ≤ 8) (fun x => tV (barV x.1 x.2))
theorem sc_bar : FnScope ["length", "degree", "power"] ["length", "degree"] (defScope sLengthBar) := ⟨rfl, rfl, rfl, by decide +kernel, rfl, by decide +kernel, by decide +kernel⟩
theorem fn_bar (T : Txt K mg) : Fn P w K mg base "length_bar" 2 ["length", "degree"] [] spBar := by
  refine fn_of' (st := sLengthBar) T.d_length_bar (fun _ _ _ _ _ _ us h => match us, h with | [_, _], _ => rfl) sc_bar (fun _ => rfl) fun f cdv Ar outer s H E x pre hr S D hR _ => ?_
  obtain ⟨n, d⟩ := x
  obtain ⟨h1, h8, hd⟩ : 1 ≤ n ∧ n ≤ 8 ∧ d ≤ 8 := pre
  have nd := sc_bar.nd
  show BTy _ _ _ _ [some (tI n), some (tI d), none] _ _
  refine bt_no (tt_not (tt_val (et_call (x := ((n : Int), some 1, some (10 ^ 30))) (fn_whole3 T) hr trivial (at_cons (et_var 0) (at_cons et_int (at_one (et_intG T.i_MOST_EVEN))))))) (by simp [wholeB, loB, hiB]; omega) ?_
  refine bt_no (tt_not (tt_val (et_call (x := ((d : Int), some 0, some (10 ^ 30))) (fn_whole3 T) hr trivial (at_cons (et_var 1) (at_cons et_int (at_one (et_intG T.i_MOST_EVEN))))))) (by simp [wholeB, loB, hiB]; omega) ?_
  refine bt_set 2 nd et_int ?_
  have st : ∀ x ∈ [1, 2, 4, 8], n % x = 0 → (n % (2 * x) = 0 → 2 * x ∈ [1, 2, 4, 8] ∧ x < n) ∧ (n % (2 * x) ≠ 0 → x = pw n) := pw_step ⟨n, by omega⟩ h1
  refine bt_while (fun x : Nat => [some (tI n), some (tI d), some (tI (x : Nat))]) (fun _ => []) (fun x => decide (n % (2 * x) = 0)) (fun x => 2 * x) (fun x => x ∈ [1, 2, 4, 8] ∧ n % x = 0) (fun x => n - x) 1 PassesOwn.never ⟨by decide, Nat.mod_one n⟩ (.refl _) rfl (fun x ix => ?_) (fun x ix hk => ?_) (fun x ix hk => ?_) (fun x ix hk => ?_)
  · have hx : 0 < x := by
      rcases List.mem_cons.mp ix.1 with h | h
      · omega
      · simp at h; omega
    refine tt_eq (tt_eq' (et_mod (i := (n : Int)) (j := 2 * (x : Int)) (by omega) (et_var 0) (et_mul (.inl (by decide)) et_int (et_var 2))) et_int) ?_
    have e : ((n : Int) % (2 * (x : Int))) = ((n % (2 * x) : Nat) : Int) := by rw [Int.natCast_emod, Int.natCast_mul]; rfl
    rw [e]
    by_cases z : n % (2 * x) = 0
    · simp [z]
    · rw [decide_eq_false z]
      exact decide_eq_false (by omega)
  · have z := of_decide_eq_true hk
    have := (st x ix.1 ix.2).1 z
    have hx : 0 < x := by
      rcases List.mem_cons.mp ix.1 with h | h
      · omega
      · simp at h; omega
    exact ⟨⟨this.1, z⟩, by have := this.2; show n - 2 * x < n - x; omega⟩
  · refine bt_set 2 nd (et_mul (.inl (by decide)) et_int (et_var 2)) ?_
    refine bt_turn (fun _ _ h => h) ?_
    show EnvLe [_, _, some (tI (2 * (x : Int)))] [_, _, some (tI ((2 * x : Nat) : Int))]
    have e : (2 * (x : Int)) = ((2 * x : Nat) : Int) := by omega
    rw [e]
    exact .refl _
  · have z := of_decide_eq_false hk
    have e := (st x ix.1 ix.2).2 z
    subst e
    refine bt_ret (et_if (k := decide (pw n ≤ d)) (tt_eq (tt_le (et_var 2) (et_var 1)) ?_) (fun h => ?_) (fun h => ?_)) hR
    · by_cases z : pw n ≤ d
      · rw [decide_eq_true z]; exact decide_eq_true (by omega)
      · rw [decide_eq_false z]; exact decide_eq_false (by omega)
    · have h := of_decide_eq_true h
      refine et_eq (et_sub (et_var 2) et_int) ?_
      show tV _ = tV (barV n d)
      unfold barV
      rw [if_pos h]
    · have h := of_decide_eq_false h
      refine et_eq et_non ?_
      show tV _ = tV (barV n d)
      unfold barV
      rw [if_neg h]
end
end K79
set_option Elab.async false
set_option linter.all false
set_option maxRecDepth 100000
/-! D11: order_noise, order_of, _law_are_words. -/
namespace K79
open PySem L2
open PyProof.Rows (envOfC)
section
variable {P : Program} {w : World} {K : PySem.W.Frag} {mg : Str → Option Value} {base : Heap}
/-! ### order_noise -/
theorem hum_getD {L : Ln} {j n : Nat} (h : n < L.ms.length) : (hum L j).getD n 0 = (L.ms.getD n 0) ^ j := by
  unfold hum
  rw [List.getD_eq_getElem?_getD, List.getElem?_map, List.getD_eq_getElem?_getD, List.getElem?_eq_getElem h]
  rfl
theorem trm_succ {L : Ln} {s : List Int} {j n : Nat} (h : n < L.ms.length) : trm L.ls s (hum L j) n * L.ms.getD n 0 = trm L.ls s (hum L (j + 1)) n := by
  unfold trm
  rw [hum_getD h, hum_getD h, Rat.pow_succ]
  grind
theorem trm_zero {L : Ln} {s : List Int} {n : Nat} (h : n < L.ms.length) : trm L.ls s (hum L 0) n = L.ls.getD n 0 * (s.getD n 0 : Int) := by
  unfold trm
  rw [hum_getD h, Rat.pow_zero, Rat.mul_one]
def Loud (L : Ln) (s : List Int) : Prop := ∃ N, N < s.length ∧ nz L s N ≠ 0
theorem lawOrd_lt {L : Ln} {s : List Int} (h : Loud L s) : lawOrd L s < s.length ∧ nz L s (lawOrd L s) ≠ 0 := by
  obtain ⟨N, hN, hz⟩ := h
  unfold lawOrd
  cases e : (List.range s.length).find? (fun p => decide (nz L s p ≠ 0)) with
  | none =>
    rw [List.find?_range_eq_none] at e
    have := e N hN
    simp at this
    exact absurd this hz
  | some p =>
    rw [List.find?_range_eq_some] at e
    obtain ⟨h1, h2, _⟩ := e
    exact ⟨by simpa using h2, by simpa using h1⟩
abbrev spOrderNoise (K : PySem.W.Frag) : Sp := spT (α := Ln × List Int) (fun x => [tLine K x.1, tWS K x.2]) (fun x => LnB x.1 ∧ Word x.2 ∧ x.2.length = x.1.ls.length ∧ Loud x.1 x.2) (fun x => tTup K [tI (lawOrd x.1 x.2 : Nat), tQ K (nz x.1 x.2 (lawOrd x.1 x.2))])
abbrev nOrdNz : List Str := ["line", "word", "signs", "row", "found", "noise", "at", "sign", "entry"]
theorem sc_ordNz : FnScope nOrdNz ["line", "word"] (defScope sOrderNoise) := ⟨rfl, rfl, rfl, by decide +kernel, rfl, by decide +kernel, by decide +kernel⟩
theorem trms_at {ls : List Rat} {s : List Int} {t : List Rat} {n : Nat} (h : n < s.length) : (trms ls s t)[n]? = some (trm ls s t n) := by
  unfold trms
  rw [List.getElem?_map, List.getElem?_range h]
  rfl
theorem trms_len {ls : List Rat} {s : List Int} {t : List Rat} : (trms ls s t).length = s.length := by unfold trms; rw [List.length_map, List.length_range]
theorem fn_ordNz (T : Txt K mg) : Fn P w K mg base "order_noise" 5 ["line", "word"] [] (spOrderNoise K) := by
  refine fn_of' (st := sOrderNoise) T.d_order_noise (fun _ _ _ _ _ _ us h => match us, h with | [_, _], _ => rfl) sc_ordNz (fun _ => rfl) fun f cdv Ar outer s H E x pre hr S D hR _ => ?_
  obtain ⟨L, s'⟩ := x
  obtain ⟨hB, hw, hl, hL⟩ : LnB L ∧ Word s' ∧ s'.length = L.ls.length ∧ Loud L s' := pre
  have nd := sc_ordNz.nd
  have n8 := hB.n8
  have hlen := hB.len
  obtain ⟨N, hN, hNz⟩ := hL
  have nzok : ∀ {j}, j ≤ N → NzOk L.ls s' (hum L j) := fun hj => hB.noise hw.toSigns hl (by omega)
  show BTy _ _ _ _ [some (tLine K L), some (tWS K s'), none, none, none, none, none, none, none] _ _
  refine bt_set 2 nd (et_call (x := (L, s')) (fn_checkWord T) hr ⟨hw, hl⟩ (at_cons (et_var 0) (at_one (et_var 1)))) ?_
  refine bt_setLcE (ts := s'.map tI) (rs := (trms L.ls s' (hum L 0)).map (tQ K)) 3 (m := 6) (n := 7) (by decide) ⟨nd, blkOk_by (own := [("at", 6), ("sign", 7)]) (N := nOrdNz) (sc := defScope sOrderNoise) (by decide +kernel), rfl, rfl, rfl, rfl⟩ (pi_enumT rfl T.f_enumerate pa_w) (enTy_T (et_var 2)) (by rw [List.length_map, List.length_map, trms_len]) (by rw [List.length_map]; omega) (fun q U W hU hW => ?_) ?_
  · obtain ⟨x, ex, rfl⟩ := at_map hU
    obtain ⟨r, er, rfl⟩ := at_map hW
    have hn : q < s'.length := (List.getElem?_eq_some_iff.mp ex).1
    have exd : x = s'.getD q 0 := Option.some.inj (ex.symm.trans (getD_at hn))
    rw [trms_at hn] at er
    have er := (Option.some.inj er).symm
    rw [trm_zero (by omega)] at er
    have hlq : L.ls[q]? = some (L.ls.getD q 0) := getQ (by omega)
    have hg := hw.sg x (List.mem_of_getElem? ex)
    intro s0 H0 C cl fp
    refine et_if (k := decide (x = 1)) (tt_eq' (et_var 7) et_int) (fun h => et_eq (et_ixT (et_lengths (L := L) T (et_var 0)) (et_var 6) rfl (map_at hlq)) ?_) (fun h => et_eq (et_call (x := L.ls.getD q 0) (fn_negative T) (hr.mono (by decide)) trivial (at_one (et_ixT (et_lengths (L := L) T (et_var 0)) (et_var 6) rfl (map_at hlq)))) ?_)
    · have h := of_decide_eq_true h
      rw [er, ← exd, h, show ((1 : Int) : Rat) = 1 from rfl, Rat.mul_one]
      rfl
    · have h := of_decide_eq_false h
      have hx : x = -1 := hg.elim (fun z => absurd z h) id
      have e : L.ls.getD q 0 * ((-1 : Int) : Rat) = -(L.ls.getD q 0) := by rw [show ((-1 : Int) : Rat) = -1 from rfl]; grind
      rw [er, ← exd, hx, e]
      rfl
  refine bt_set 4 nd et_int ?_
  refine bt_set (T := tQ K (nz L s' 0)) 5 nd (et_call (x := trms L.ls s' (hum L 0)) (fn_sumOf T) hr (nzok (Nat.zero_le _)).sum (at_one (et_var 3))) ?_
  refine bt_while (fun j : Nat => [some (tLine K L), some (tWS K s'), some (tW K s'), some (tLst K ((trms L.ls s' (hum L j)).map (tQ K))), some (tI (j : Nat)), some (tQ K (nz L s' j)), none, none, none]) (fun _ => []) (fun j => decide (nz L s' j = 0)) (fun j => j + 1) (fun j => j ≤ N ∧ ∀ i, i < j → nz L s' i = 0) (fun j => N - j) 0 PassesOwn.never ⟨Nat.zero_le _, fun i hi => absurd hi (Nat.not_lt_zero _)⟩ (.refl _) rfl (fun j ij => ?_) (fun j ij hk => ?_) (fun j ij hk => ?_) (fun j ij hk => ?_)
  · exact tt_eq (tt_eqD (units64 hr) dp_q dp_q (qD_shaped _) (qD_shaped _) (et_var 5) (et_zero T)) (eqv_q _ _)
  · have z := of_decide_eq_true hk
    have hne : j ≠ N := fun e => hNz (e ▸ z)
    have := ij.1
    refine ⟨⟨by omega, fun i hi => ?_⟩, by omega⟩
    rcases Nat.lt_succ_iff_lt_or_eq.mp hi with h | h
    · exact ij.2 i h
    · rw [h]; exact z
  · have z := of_decide_eq_true hk
    have hne : j ≠ N := fun e => hNz (e ▸ z)
    have hj := ij.1
    refine bt_setLcE (ts := (trms L.ls s' (hum L j)).map (tQ K)) (rs := (trms L.ls s' (hum L (j + 1))).map (tQ K)) 3 (m := 6) (n := 8) (by decide) ⟨nd, blkOk_by (own := [("at", 6), ("entry", 8)]) (N := nOrdNz) (sc := defScope sOrderNoise) (by decide +kernel), rfl, rfl, rfl, rfl⟩ (pi_enum rfl T.f_enumerate pa_w) (enTy_L (et_var 3)) (by rw [List.length_map, List.length_map, trms_len, trms_len]) (by rw [List.length_map, trms_len]; omega) (fun q U W hU hW => ?_) ?_
    · obtain ⟨x, ex, rfl⟩ := at_map hU
      obtain ⟨r, er, rfl⟩ := at_map hW
      have hn : q < s'.length := by have := (List.getElem?_eq_some_iff.mp ex).1; rwa [trms_len] at this
      rw [trms_at hn] at ex er
      have ex := (Option.some.inj ex).symm
      have er := (Option.some.inj er).symm
      have hmq : L.ms[q]? = some (L.ms.getD q 0) := getQ (by omega)
      obtain ⟨e, h1, h2⟩ := (nzok hj).trm_sz
      have h3 := h1 q hn
      obtain ⟨c, ok, hc, _⟩ := hB
      have hsz : s'.length * (e + 1) ≥ 1 * (e + 1) := Nat.mul_le_mul_right _ (by omega)
      intro s0 H0 C cl fp
      refine et_eq (et_call (x := (x, L.ms.getD q 0)) (fn_times T) (hr.mono (by decide)) ⟨560, 60, ?_, (ok.zm _ (getQ_mem (by omega))).mono hc, by decide⟩ (at_cons (et_var 8) (at_one (et_ixT (et_marks (L := L) T (et_var 0)) (et_var 6) rfl (map_at hmq))))) ?_
      · rw [ex]
        have z1 : Sz 60 (L.ls.getD q 0) := (ok.zl _ (getQ_mem (by omega))).mono hc
        have z2 : Sz 500 ((hum L j).getD q 0) := by
          rw [hum_getD (by omega)]
          refine ((ok.zm _ (getQ_mem (n := q) (by omega))).pow j).mono ?_
          have : j * c ≤ 8 * 60 := Nat.mul_le_mul (by omega) hc
          omega
        unfold trm
        exact (sz_sign z1 (hw.sg _ (getS_mem hn))).mul z2
      · rw [er, ex]
        show tQ _ (trm L.ls s' (hum L j) q * L.ms.getD q 0) = _
        rw [trm_succ (by omega)]
        rfl
    refine bt_set (T := tQ K (nz L s' (j + 1))) 5 nd (et_call (x := trms L.ls s' (hum L (j + 1))) (fn_sumOf T) hr (nzok (by omega)).sum (at_one (et_var 3))) ?_
    refine bt_aug 4 nd ip_add rfl et_int ?_
    refine bt_turn (fun _ _ h => h) ?_
    show EnvLe [_, _, _, _, some (tI ((j : Int) + 1)), _, _, _, _] [_, _, _, _, some (tI ((j + 1 : Nat) : Int)), _, _, _, _]
    have e : ((j : Int) + 1) = ((j + 1 : Nat) : Int) := by omega
    rw [e]
    exact el_eq (el_eq (el_eq (el_eq (el_eq (el_eq (el_no (el_no (el_no el_nil))))))))
  · have z := of_decide_eq_false hk
    have e : lawOrd L s' = j := lawOrd_at (by have := ij.1; omega) ij.2 z
    refine bt_ret (et_eq (et_tup (at_cons (et_var 4) (at_one (et_var 5)))) ?_) hR
    show _ = tTup K [tI (lawOrd L s' : Nat), tQ K (nz L s' (lawOrd L s'))]
    rw [e]
    rfl
abbrev spOrderOf (K : PySem.W.Frag) : Sp := spT (α := Ln × List Int) (fun x => [tLine K x.1, tWS K x.2]) (fun x => LnB x.1 ∧ Word x.2 ∧ x.2.length = x.1.ls.length ∧ Loud x.1 x.2) (fun x => tI (lawOrd x.1 x.2 : Nat))
theorem sc_orderOf : FnScope ["line", "word"] ["line", "word"] (defScope sOrderOf) := ⟨rfl, rfl, rfl, by decide +kernel, rfl, by decide +kernel, by decide +kernel⟩
theorem fn_orderOf (T : Txt K mg) : Fn P w K mg base "order_of" 6 ["line", "word"] [] (spOrderOf K) := by
  refine fn_of' (st := sOrderOf) T.d_order_of (fun _ _ _ _ _ _ us h => match us, h with | [_, _], _ => rfl) sc_orderOf (fun _ => rfl) fun f cdv Ar outer s H E x pre hr S D hR _ => ?_
  obtain ⟨L, s'⟩ := x
  show BTy _ _ _ _ [some (tLine K L), some (tWS K s')] _ _
  exact bt_ret (et_ixT (k := 0) (et_call (x := (L, s')) (fn_ordNz T) hr pre (at_cons (et_var 0) (at_one (et_var 1)))) et_int rfl rfl) hR
/-! ### _law_are_words: told what is due -/
abbrev spLAre (K : PySem.W.Frag) : Sp := spT (α := List (List Int)) (fun l => [tLst K (l.map (tW K)), tLst K (l.map (tW K))]) (fun l => l.length ≤ 9999 ∧ ∀ s ∈ l, Word s) (fun _ => tBl true)
theorem sc_lare : FnScope ["_law_told", "_law_due", "_law_k"] ["_law_told", "_law_due"] (defScope sLLawAreWords) := ⟨rfl, rfl, rfl, by decide +kernel, rfl, by decide +kernel, by decide +kernel⟩
theorem fn_lare (T : Txt K mg) : Fn P w K mg base "_law_are_words" 2 ["_law_told", "_law_due"] [] (spLAre K) := by
  refine fn_of' (st := sLLawAreWords) T.d__law_are_words (fun _ _ _ _ _ _ us h => match us, h with | [_, _], _ => rfl) sc_lare (fun _ => rfl) fun f cdv Ar outer s H E l pre hr S D hR _ => ?_
  obtain ⟨hl, hw⟩ : l.length ≤ 9999 ∧ ∀ s ∈ l, Word s := pre
  have nd := sc_lare.nd
  show BTy _ _ _ _ [some (tLst K (l.map (tW K))), some (tLst K (l.map (tW K))), none] _ _
  refine bt_no (tt_ne (et_lenL T.f_len (et_var 0)) (et_lenL T.f_len (et_var 1))) (by rw [dec_self]; rfl) ?_
  refine bt_forR 2 l.length (fun _ => [some (tLst K (l.map (tW K))), some (tLst K (l.map (tW K))), none]) (fun _ => []) nd PassesOwn.never T.f_range (et_eq (et_lenL T.f_len (et_var 1)) (by rw [List.length_map])) (by omega) (.refl _) rfl (fun S1 H1 g n hn => ?_) (bt_ret et_bl hR)
  have e : l[n]? = some l[n] := List.getElem?_eq_getElem hn
  have hwn := hw _ (List.getElem_mem hn)
  refine bt_no (tt_w (wt_or2 (tt_not (tt_val (et_call (x := l[n]) (fn_lisword T) hr hwn (at_cons (et_ixL (T := tW K l[n]) (et_var 0) (et_var 2) rfl (map_at e)) (at_one (et_eq (et_lenT (ts := l[n].map tI) T.f_len (et_ixL (T := tW K l[n]) (et_var 1) (et_var 2) rfl (map_at e))) (by rw [List.length_map]))))))) (fun _ => wt_or1 (tt_neD (units64 hr) (dp_w (s := l[n])) (dp_w (s := l[n])) (wD_shaped _) (wD_shaped _) (et_ixL (et_var 0) (et_var 2) rfl (map_at e)) (et_ixL (et_var 1) (et_var 2) rfl (map_at e)))))) ?_ ?_
  · rw [eqv_w, decide_eq_true rfl]
    rfl
  · exact bt_turn (fun _ _ h => h) (el_eq (el_eq (el_no el_nil)))
end
end K79
set_option Elab.async false
set_option linter.all false
set_option maxRecDepth 100000
/-! KW: [c] * n, displays of dicts with tuples as keys, lists that begin with one item, items of owned lists. -/
namespace PySem
open Sem (wp)
section
variable {prog : Program} {w : World} {K : Type} [DecidableEq K] {knd : HeapKind prog w K} {A : Around} {E : Value → Shared → Prop} {s : Shared}
theorem k79_disp_heap {env : Env} {keys : List (Option Expr)} {values : List Expr} {pos : Pos} {Q : Value → Shared → Prop} (hu : knd.room A) (hall : keys.all (·.isSome) = true) (hl : keys.length = values.length) (h0 : keys ≠ []) (h15 : keys.length ≤ 15)
    (h : wpAny (model prog w) A (evalPairs (pairTrees keys values env pos)) (fun vs s₁ => ∃ ps, CarriesH knd s₁.heap vs ps ∧ s₁.heap.DictOfH knd s.heap.objs.size [] ∧
      ∀ h' tk, h'.DictOfH knd s.heap.objs.size (storedAllH [] ps) → Heap.SameBut s.heap.objs.size s₁.heap h' → Q (.ref s.heap.objs.size) { s₁ with heap := h', toks := tk }) E
      { s with heap := s.heap.push { cls := .type "dict", data := .dict #[] } }) :
    wpAny (model prog w) A (eval (.Dict keys values pos) env) Q E s := by
  have hn := pairTrees_length keys values env pos hall hl
  have hne : pairTrees keys values env pos ≠ [] := fun he => by
    rw [he] at hn
    exact h0 (List.eq_nil_of_length_eq_zero hn.symm)
  have hlen : (pairTrees keys values env pos).length ≤ 15 := by rw [hn]; exact h15
  rw [arm_eval_Dict, zip_pairTrees keys values env pos hall hl, dictDisplay_pairs _ hne (by omega)]
  refine wpAny_bind (wpAny_standAt (wpAny_bind (wpAny_subDictH (knd := knd) (Q := fun d s' => wpAny (model prog w) A (pure (Value.ref d)) Q E s') hu hlen ?_)))
  exact wpAny_mono h (fun vs s₁ h₁ => by obtain ⟨ps, hc, hm, hq⟩ := h₁; exact ⟨ps, hc, hm, fun h' tk a b => wpAny_pure (hq h' tk a b)⟩) fun _ _ e => e
end
end PySem
namespace K79
open PySem L2
open PyProof.Rows (envOfC)
section
variable {X : Cx} {S0 H0 : Hp} {O : Owns} {Γ : Env} {D : Ends} {e a b k v : Expr} {es : List Expr} {rest : List Stmt} {T U : Ty} {ts : List Ty} {pos p1 p2 : Pos} {x : Str} {i j : Nat} {p : Addr}
/-- a list that the call made -/
def tLstH (ts : List Ty) : Ty := ⟨fun v S => ∃ a vs, v = .ref a ∧ S a = some (.lst vs) ∧ All2 ts vs S, fun e ⟨a, vs, h1, h2, h3⟩ => ⟨a, vs, h1, e _ _ h2, h3.m e⟩⟩
theorem et_lstH (h : ATy X O Γ es ts) (hl : ts.length ≤ 100000 := by exact Nat.le_of_ble_eq_true rfl) : ETy X O Γ (.List es pos) (tLstH ts) := fun σ F S H Q g o i1 q =>
  of_pe (pe_lst pa_w) (h σ F S H _ g o i1 fun vs S1 H1 g1 t1 => ⟨by rw [← t1.len]; exact sz100 hl, fun p hp =>
    q (.ref p) (upd S1 p (.lst vs)) (upd H1 p (.lst vs)) (g1.trans (.new g1.i hp)) ⟨p, vs, rfl, upd_same, t1.m (same_upd (g1.i.free hp))⟩⟩)
theorem flat_one {α : Type} (x : α) : ∀ n : Nat, (List.replicate n [x]).flatten = List.replicate n x
  | 0 => rfl
  | n + 1 => by rw [List.replicate_succ, List.flatten_cons, flat_one x n]; rfl
/-- [c] * n -/
theorem et_rep {c : Int} {n : Nat} (ha : ETy X O Γ a (tI c)) (hb : ETy X O Γ b (tI (n : Nat))) (hn : n ≤ 99999) (hs : starEach (a :: []) X.env = (false, eval a X.env) :: starEach [] X.env := by rfl) : ETy X O Γ (.BinOp (.List [a] p1) .Mult b pos) (tLst X.K ((List.replicate n c).map tI)) :=
  et_bin op_rep (et_lstH (at_one ha hs)) hb (fun u v S H Q ⟨l, vs, h1, h2, h3⟩ h4 i q => by
    obtain ⟨y, rfl, hy⟩ := all2_1 h3
    have hy : y = .int c := hy
    have h4 : v = .int n := h4
    subst h1 h4 hy
    refine ⟨l, n, _, rfl, rfl, i _ _ h2, by omega, by omega, ?_, fun p hp => ?_⟩
    · rw [Int.toNat_natCast]
      exact Nat.le_trans (by simpa using hn) (by decide)
    · rw [Int.toNat_natCast, flat_one]
      refine q (.ref p) (upd S p (.lst (List.replicate n (V.int c)))) _ (.new i hp) ⟨p, _, rfl, SqL.of upd_same, ?_⟩
      have := ints_all2 (List.replicate n c) (upd S p (.lst (List.replicate n (V.int c))))
      rwa [List.map_replicate (f := V.int)] at this)
/-- x = [e]: a list that is the def's own -/
theorem bt_newL1 (i : Nat) (nd : X.N.Nodup) (he : ETy X O Γ e T) (hr : ∀ p, BTy X S0 H0 ((p, oL [T]) :: O) (Γ.set i (some (tV (.ref p)))) rest D) (hi : X.N[i]? = some x := by rfl) (hx : Loc X.env.scope x := by first | exact Or.inl rfl | exact Or.inr rfl)
    (hf : X.fn x = true ∨ X.env.scope.names.lookup x = some .local := by first | exact .inl rfl | exact .inr rfl | assumption) (hs : swapsWith (.List [e] p1) (some (.Name x p2)) pos.line X.env = pure false := by rfl) (hst : starEach (e :: []) X.env = (false, eval e X.env) :: starEach [] X.env := by rfl) : BTy X S0 H0 O Γ (.Assign [.Name x p2] (.List [e] p1) pos :: rest) D := fun σ S H g g1 o =>
  of_pss (pss_cons (ps_set nd hi hx (pe_lst pa_w) hs hf) pss_w) (at_one he hst σ H0 S H _ g1 o g.i fun vs S1 H1 g2 t => by
    obtain ⟨u, rfl, hu⟩ := all2_1 t
    refine ⟨by show 1 ≤ sizeLine; decide, fun p hp => ?_⟩
    have gg := g.trans g2
    have hS : S1 p = none := gg.i.free hp
    have hF : H0 p = none := gg.h.free hp
    exact hr p _ S1 _ (gg.store hF hS) ((g1.m g2.s).set i rfl) ((o.grow g2).cons hF hS hp ⟨[u], rfl, .cons hu .nil⟩))
/-- xs[i], xs owned -/
theorem et_ixO {n : Int} {m : Nat} (j : Nat) (hk : O[j]? = some (p, oL ts)) (ha : ETy X O Γ a (tV (.ref p))) (hb : ETy X O Γ b (tI n)) (hn : n = (m : Int)) (hT : ts[m]? = some T) (hs : PlainIx b := by exact fun _ _ => rfl) : ETy X O Γ (.Subscript a b pos) T := fun σ F S H Q g oo i q =>
  of_pe (pe_ix ix_list pe_w pe_w hs) (ha σ F S H _ g oo i fun u S1 H1 g1 t1 => hb σ F S1 H1 _ (g.m g1.s) (oo.grow g1) g1.i fun y S2 H2 g2 t2 => by
    have t1 : u = .ref p := t1
    have t2 : y = .int n := t2
    subst t1 t2 hn
    obtain ⟨_, _, w, h3, vs, h4, h5⟩ := ((oo.grow g1).grow g2).at_ j _ _ hk
    subst h4
    obtain ⟨v, h6, h7⟩ := h5.get hT
    exact ⟨p, vs, m, v, rfl, rfl, .inl (.inl h3), atI_nat h6, q v S2 H2 (g1.trans g2) h7⟩)
/-! ### {k: v} -/
def tDsp1 (tk tv : TE) : TE := fun σ H Q => ∀ p, H p = none → tk σ (upd H p (.dT [])) fun y H1 => tv σ H1 fun z H2 => ∃ r b, y = .ref b ∧ H2 b = some (.tup (r.map kV)) ∧ H2 p = some (.dT []) ∧ Q (.ref p) (upd H2 p (.dT [(r, z)]))
theorem pe_dsp1 {tk tv : TE} (hu : X.A.units + 1 < cLine) (hk : PE X k tk) (hv : PE X v tv) : PE X (.Dict [some k] [v] pos) (tDsp1 tk tv) := by
  refine ⟨fun pins s σ H Q I q => ?_⟩
  have hn := I.hok.fresh (Nat.le_refl s.heap.objs.size)
  have I1 := I.laid (a := s.heap.objs.size) (o := .dT []) (h' := s.heap.push { cls := .type "dict", data := .dict #[] }) (t' := s.toks) (fun _ _ q => Heap.get?_push_of_some _ q) (Nat.le_refl _) (dt_empty s.heap I.big)
  refine PySem.k79_disp_heap (knd := tupleKind (mixKind X.prog X.w)) (show X.A.units < cLine by omega) rfl rfl (by simp) (by show 1 ≤ 15; decide) ?_
  refine pairTrees_cons_walk (thn (hk.run pins _ σ _ _ I1 (q _ hn)) fun u s1 ⟨y, H1, I2, ry, q1⟩ => thn (hv.run pins s1 σ H1 _ I2 q1) fun u2 s2 ⟨z, H2, I3, rz, r, b, ey, hb, hp, q2⟩ => pairTrees_nil_walk ?_)
  subst ey
  obtain rfl : u = Value.ref b := ry
  obtain ⟨z0, hd, xs, rel, dd⟩ := dt_of I3.hok hp
  cases rel
  refine ⟨[(r, b, u2)], ⟨rfl, rfl, key_of I3.hok hb, trivial⟩, dd, fun h' tk dd' hs => ⟨.ref s.heap.objs.size, _, ?_, rfl, q2⟩⟩
  obtain ⟨o, es, ep, ho, h2, h3, h4, _, h5⟩ := dd'
  refine d_write I3 (by rw [hp]; exact True.intro) hs ⟨o, ho⟩ ⟨by show 1 ≤ sizeLine; decide, hd, [(r, b, u2)], .cons ⟨rfl, ?_, rz⟩ .nil, o, es, ep, ho, h2, h3, h4, h5⟩
  show upd H2 s.heap.objs.size _ b = some (.tup (r.map kV))
  rw [upd_ne (ne_of hb hp (fun z => nomatch z))]
  exact hb
/-- a type's values are found past an object that S does not hold -/
theorem et_dsp1 {r : List Int} {w : V} (hu : X.A.units + 1 < cLine) (hk : ETy X O Γ k (tRow r)) (hv : ETy X O Γ v (tV w)) : ETy X O Γ (.Dict [some k] [v] pos) (tDic [(r, w)]) := fun σ F S H Q g oo i q pins s I => by
  have z := (pe_dsp1 (pos := pos) hu (pe_w (X := X) (e := k)) (pe_w (X := X) (e := v))).run pins s σ H (fun y H' => ∃ p H3, y = .ref p ∧ H' = upd H3 p (.dT (toK [(r, w)])) ∧ H3 p = none ∧ ∃ S3, Grow S H S3 H3) I (fun p hp => by
    have sub : Same S (upd H p (.dT [])) := fun b u e => by
      have q := i b u e
      rw [upd_ne (ne_of_none q hp)]
      exact q
    have g0 : Grow S H S H := .refl i
    have ooo : OwnOk O F S (upd H p (.dT [])) := oo.grow ⟨Same.refl _, sub, same_upd hp, fun b u e n => by rw [e] at n; cases n⟩
    refine hk σ F S _ _ g ooo sub fun y S1 H1 g1 ⟨b, e1, e2⟩ => hv σ F S1 H1 _ (g.m g1.s) (ooo.grow g1) g1.i fun u S2 H2 g2 hu => ?_
    have hu : u = w := hu
    subst e1 hu
    obtain ⟨H3, e3, n3, g3⟩ := (g1.trans g2).hide (fun _ z => by cases z) i hp
    subst e3
    refine ⟨dk r, b, rfl, ?_, upd_same, p, H3, rfl, ?_, n3, S2, g3⟩
    · rw [dk_kV]; exact g2.i _ _ (g2.s _ _ e2)
    · rw [upd_upd]; rfl)
  refine thn z fun u s1 ⟨y, H1, I1, ry, p, H3, ey, eH, n3, S3, g3⟩ => ?_
  subst ey eH
  obtain ⟨od, I2⟩ := I1.lock (d := p) upd_same True.intro
  rw [upd_upd] at I2
  exact ⟨.ref p, _, I2, ry, q (.ref p) (upd S3 p (.frz od (.dT (toK [(r, w)])))) _ (g3.trans (.new g3.i n3)) ⟨p, od, rfl, upd_same⟩⟩
end
end K79
set_option Elab.async false
set_option linter.all false
set_option maxRecDepth 100000
/-! KX2: dict comprehensions whose keys are tuples (the walk goes as HandS.DictComp's, turned to such dicts). -/
namespace L2
open PySem PySem.Spec PyProof.Rows
theorem d_dictSetT {X : Cx} {pins : List (Addr × Obj)} {σ : St} {H : Hp} {s : Shared} {E : Value → Shared → Prop} {D b : Addr} {kvs : List (List Key × V)} {k : List Key} {v : V} {r : Value} {Q : Unit → Shared → Prop} (hu : X.A.units < cLine) (I : Inv X pins σ H s) (hD : H D = some (.dT kvs)) (hz : kvs.length < sizeLine)
    (eb : H b = some (.tup (k.map kV))) (rv : RelV v r) (h : ∀ s', Inv X pins σ (upd H D (.dT (putK kvs k v))) s' → Q () s') : wpAny (model X.prog X.w) X.A (dictSet D (.ref b) r) Q E s := by
  obtain ⟨z, hd, xs, rel, dd⟩ := dt_of I.hok hD
  have hzv : xs.length ≤ sizeLine := by rw [← Paired.length rel]; exact z
  have hl : (putK kvs k v).length ≤ sizeLine := by have := length_putK kvs k v; omega
  refine wpAny_dictSet_heap (hsz := hzv) (knd := tupleKind (mixKind X.prog X.w)) hu (key_of I.hok eb) dd fun h' dd' hs => h _ ?_
  obtain ⟨q, es, ep, hq, h2, h3, h4, _, h5⟩ := dd'
  refine d_write I (by rw [hD]; exact True.intro) hs ⟨q, hq⟩ ⟨hl, hd, _, (rel.put k eb rv).keeps fun c ys ec => ?_, q, es, ep, hq, h2, h3, h4, h5⟩
  rw [upd_ne (ne_of ec hD (fun z => nomatch z))]
  exact ec
section
variable {X : Cx}
def tDcT (wi : TI) (g : TG) (tt : TT) (tk tv : TE) (vs : List Nat) : TE := fun σ H Q => wi σ H fun J H1 => ∀ D, H1 D = none → ∃ W : Nat → Nat → Hp → Prop, (∃ m, W 0 m (upd H1 D (.dT []))) ∧ ∀ i m H, W i m H →
  (J.stop i H ∧ Q (.ref D) H) ∨ (J.go i H ∧ ∃ Nx : Hp → Prop, (∀ H', Nx H' → ∃ m', m' < m ∧ W (i + 1) m' H') ∧ ∀ x H', J.yld i H x H' → g x (wipe σ vs) H' fun σ2 H2 => wipe σ2 vs = wipe σ vs ∧ tt σ2 H2 fun b H3 =>
    if b = true then tk σ2 H3 fun y H4 => tv σ2 H4 fun z H5 => ∃ kvs k b, y = .ref b ∧ H5 b = some (.tup (k.map kV)) ∧ H5 D = some (.dT kvs) ∧ kvs.length < sizeLine ∧ Nx (upd H5 D (.dT (putK kvs k z))) else Nx H3)
theorem dcT_core {pins : List (Addr × Obj)} {s : Shared} {σ : St} {H : Hp} {Q : VK} {kx vx tg iter : Expr} {ifs : List Expr} {scope : Scope} {own : List (Str × Nat)} {pos pos' : Pos} {wi : TI} {g : TG} {tt : TT} {tk tv : TE} {use : Option (Value → Sem Unit)} {Qf : Value → Shared → Prop}
    (hu : X.A.units < cLine) (hc : X.calm = true) (hN : X.N.Nodup) (I : Inv X pins σ H s) (hi : PI X tg iter wi) (ok : BlkOk X.N X.env.scope scope own)
    (hg : ∀ (s : Shared) (H : Hp) (C : Addr) (cl : List (Str × Addr)) (fp : List Addr), PG (X.blk s H scope (compEnvC scope cl C X.env) fp) tg g) (ht : ∀ (s : Shared) (H : Hp) (C : Addr) (cl : List (Str × Addr)) (fp : List Addr), PTs (X.blk s H scope (compEnvC scope cl C X.env) fp) ifs tt)
    (hk : ∀ (s : Shared) (H : Hp) (C : Addr) (cl : List (Str × Addr)) (fp : List Addr), PE (X.blk s H scope (compEnvC scope cl C X.env) fp) kx tk)
    (he : ∀ (s : Shared) (H : Hp) (C : Addr) (cl : List (Str × Addr)) (fp : List Addr), PE (X.blk s H scope (compEnvC scope cl C X.env) fp) vx tv) (hs : ∀ x, foldedSetIterable iter X.env x = pure x)
    (h : tDcT wi g tt tk tv (own.map (·.2)) σ H Q)
    (hRR : ∀ D C s' m H', Inv X pins σ H' s' → Q (.ref D) H' → s'.heap.Ns C m → FpOk X pins H' C → compPost (model X.prog X.w) X.A X.xe use Qf (.ref D) C (.ok .next) s') :
    wpAny (model X.prog X.w) X.A (comprehension (.DictComp kx vx [⟨tg, iter, ifs, 0⟩] scope pos) scope X.env pos' newDict false (eval iter X.env) use) Qf X.xe s := by
  have hfree : ∀ y ∈ scope.names, y.2 = .free → ∃ c, X.env.cells.lookup y.1 = some c := fun y hy e => by
    rcases ok.free y hy e with k | k
    · exact I.ok.has _ (.inl k)
    · exact I.ok.has _ (.inr k)
  refine wpAny_comprehension_free (use := use) rfl hs (closure_ok hfree) ok.kind (fun y hy e => by rw [ok.uniq y hy, e])
    (thn (hi.run pins s σ H _ I h) fun xv s1 hx => thn hx fun itv s2 h2 => ?_)
  obtain ⟨it, fp, tn, J, H2, e, I2, T, st2, f2, q⟩ := h2
  subst e
  refine wpAny_newObj_type (newEnv_comp ?_)
  generalize hD : s2.heap.objs.size = D
  have hDn : H2 D = none := I2.hok.fresh (Nat.le_of_eq hD)
  obtain ⟨W, ⟨m0, w0⟩, turn⟩ := q D hDn
  -- the new list
  generalize hs3 : ({ s2 with heap := s2.heap.push { cls := .type "dict", data := .dict #[] } } : Shared) = s3
  have I3 : Inv X pins σ (upd H2 D (.dT [])) s3 := by
    rw [← hs3]
    refine I2.laid (t' := s2.toks) (fun b o e => Heap.get?_push_of_some _ e) (Nat.le_of_eq hD) ?_
    rw [← hD]
    exact dt_empty s2.heap I2.big
  have h3 : s3.heap = s2.heap.push { cls := .type "dict", data := .dict #[] } := by rw [← hs3]
  have sz : ∀ b ∈ fp, b < s2.heap.objs.size := fun b hb => by
    obtain ⟨o, e, _⟩ := T.obj _ _ st2 b hb
    exact Heap.lt_size e
  have f3 : ∀ b ∈ fp, FpOk X pins (upd H2 D (.dT [])) b ∧ b < s3.heap.objs.size := fun b hb => by
    have hlt := sz b hb
    refine ⟨⟨?_, (f2 b hb).2⟩, by rw [h3, Heap.size_push]; exact Nat.lt_succ_of_lt hlt⟩
    rw [upd_ne (by rw [← hD]; exact Nat.ne_of_lt hlt)]
    exact (f2 b hb).1
  have st3 : tn 0 s3.heap := T.keep _ _ _ st2 fun b _ o e => by rw [h3]; exact Heap.get?_push_of_some _ e
  have I4 := block_start I3 ok hN f3
  have pg := hg s3 (upd H2 D (.dT [])) s3.heap.objs.size (cellsFrom (s3.heap.objs.size + 1) scope.names (cloFrom X.env.cells scope.names [])) fp
  have pt := ht s3 (upd H2 D (.dT [])) s3.heap.objs.size (cellsFrom (s3.heap.objs.size + 1) scope.names (cloFrom X.env.cells scope.names [])) fp
  have pk := hk s3 (upd H2 D (.dT [])) s3.heap.objs.size (cellsFrom (s3.heap.objs.size + 1) scope.names (cloFrom X.env.cells scope.names [])) fp
  have pe := he s3 (upd H2 D (.dT [])) s3.heap.objs.size (cellsFrom (s3.heap.objs.size + 1) scope.names (cloFrom X.env.cells scope.names [])) fp
  show codeAny _ _ (.compStart (.DictComp kx vx [⟨tg, iter, ifs, 0⟩] scope pos) 0 (.ref it) (.ref D) (compEnvC scope (cellsFrom (s3.heap.objs.size + 1) scope.names (cloFrom X.env.cells scope.names [])) s3.heap.objs.size X.env)) (compPost (model X.prog X.w) X.A X.xe use Qf (.ref D) s3.heap.objs.size) { s3 with heap := pushCells (s3.heap.push { cls := .type "dict", data := .dict #[] }) scope.names }
  have nfp : ∀ b ∈ fp, (upd H2 D (.dT [])) b = none := fun b hb => (f3 b hb).1.1
  generalize hce : compEnvC scope (cellsFrom (s3.heap.objs.size + 1) scope.names (cloFrom X.env.cells scope.names [])) s3.heap.objs.size X.env = ce at I4 pg pt pk pe ⊢
  have cL : ce.locals = s3.heap.objs.size := by subst hce; rfl
  generalize hH3 : upd H2 D (.dT []) = H3 at I3 I4 pg pt pk pe w0 nfp f3
  generalize hs4 : ({ s3 with heap := pushCells (s3.heap.push { cls := .type "dict", data := .dict #[] }) scope.names } : Shared) = s4 at I4 ⊢
  have st4 : tn 0 s4.heap := T.keep _ _ _ st3 fun b _ o e => by rw [← hs4]; exact pushCells_keeps _ _ _ _ (Heap.get?_push_of_some _ e)
  have stat : ∀ {σ' : St} {H' : Hp} {s' : Shared}, Inv (X.blk s3 H3 scope ce fp) [] σ' H' s' → (∀ b ∈ fp, H' b = none) → ∀ b ∈ fp, FpOk (X.blk s3 H3 scope ce fp) [] H' b := fun {σ' H' s'} I' hn b hb =>
    ⟨hn b hb, (I'.ok.exf b hb).1, I'.ok.exfs b hb, .inl hb, fun x c e => (I'.ok.exf b hb).2 x c e, fun p hp => absurd (show p ∈ ([] : List (Addr × Obj)) ++ [] from hp) (by simp)⟩
  have loop : codeAny (model X.prog X.w) X.A (.compLoop (.DictComp kx vx [⟨tg, iter, ifs, 0⟩] scope pos) 0 (.ref it) (.ref D) ce) (compPost (model X.prog X.w) X.A X.xe use Qf (.ref D) s3.heap.objs.size) s4 := by
    refine compLoop_anyD (fun n s' => ∃ i H', Inv (X.blk s3 H3 scope ce fp) [] (wipe σ (own.map (·.2))) H' s' ∧ tn i s'.heap ∧ (∀ b ∈ fp, H' b = none) ∧ W i n H') ?_ m0 ⟨0, H3, I4, st4, nfp, w0⟩
    rintro n s5 ⟨i, H5, I5, st5, n5, w5⟩
    rcases turn i n H5 w5 with ⟨stop, qq⟩ | ⟨go, Nx, hNx, step⟩
    · have td := T.done (X.blk s3 H3 scope ce fp) rfl rfl rfl hc i [] s5 _ H5 (fun _ _ => False) I5 (stat I5 n5) st5 stop
      refine thnF td fun r s6 ⟨hr, I6⟩ => ?_
      subst hr
      -- back in the def's context
      have I7 : Inv X pins σ H5 s6 := I3.call' (ch := fp) I6.os I6.base I6.hok I6.bare fun b hb => ⟨(f3 b hb).1.2.2.2.1, (f3 b hb).1.2.1, (f3 b hb).1.2.2.2.2.1, (f3 b hb).1.2.2.2.2.2⟩
      have nC : H5 s3.heap.objs.size = none := by
        have z : H5 ce.locals = none := I6.free
        rw [cL] at z
        exact z
      obtain ⟨m, hn, _⟩ := I6.loc
      have hn : s6.heap.Ns ce.locals m := hn
      rw [cL] at hn
      exact hRR D s3.heap.objs.size s6 m H5 I7 qq hn (I3.fpOk (Nat.le_refl _) nC)
    · have ti := T.item (X.blk s3 H3 scope ce fp) rfl rfl rfl hc i [] s5 _ H5 (fun _ _ => False) I5 (stat I5 n5) st5 go
      refine thnF ti fun r s6 ⟨u, hr, h6⟩ => ?_
      subst hr
      refine thnF h6 fun _ s7 ⟨x, H7, I7, r7, y7, st7, n7⟩ => ?_
      have I7' := I7.pinned (stat I7 n7) (T.obj _ _ st7)
      refine thnF (pg.run _ s7 _ H7 x u _ I7' r7 (step x H7 y7)) fun _ s8 ⟨σ8, H8, I8, hw8, q8⟩ => ?_
      refine thnF (pt.run _ s8 σ8 H8 _ I8 q8) fun b s9 ⟨H9, I9, q9⟩ => ?_
      -- the turn's end
      have fin : ∀ {s' : Shared} {H' : Hp}, Inv (X.blk s3 H3 scope ce fp) ([] ++ pinsAt fp s7.heap) σ8 H' s' → Nx H' → ∃ m, m < n ∧ ∃ i H', Inv (X.blk s3 H3 scope ce fp) [] (wipe σ (own.map (·.2))) H' s' ∧ tn i s'.heap ∧ (∀ b ∈ fp, H' b = none) ∧ W i m H' := fun {s' H'} I' nx => by
        obtain ⟨m', hm, w'⟩ := hNx H' nx
        have pin' : ∀ b ∈ fp, ∀ o, s7.heap.get? b = some o → s'.heap.get? b = some o ∧ H' b = none := fun b hb o e =>
          let z := I'.pin (b, o) (List.mem_append_right _ (List.mem_append_right _ (mem_pinsAt hb e)))
          ⟨z.1, z.2.1⟩
        have hl : (wipe σ (own.map (·.2))).length = σ8.length := by rw [← hw8, wipe_length]
        refine ⟨m', hm, i + 1, H', (I'.unpinned (pins := [])).weak hl (fun j v e => ?_), T.keep _ _ _ st7 fun b hb o e => (pin' b hb o e).1, fun b hb => ?_, w'⟩
        · rw [← hw8] at e
          exact (wipe_some e).1
        · obtain ⟨o, e, _⟩ := T.obj _ _ st7 b hb
          exact (pin' b hb o e).2
      cases b with
      | false =>
        simp only [Bool.false_eq_true, if_false] at q9 ⊢
        exact fin I9 q9
      | true =>
        simp only [if_true] at q9 ⊢
        refine thnF (pk.run _ s9 σ8 H9 _ I9 q9) fun z s10 ⟨yk, H10, I10, r10, q10⟩ => ?_
        refine thnF (pe.run _ s10 σ8 H10 _ I10 q10) fun z2 s11 ⟨yv, H11, I11, r11, kvs, k, bk, ek, hbk, hD11, hz11, nx⟩ => ?_
        subst ek
        obtain rfl : z = Value.ref bk := r10
        exact d_dictSetT (X := X.blk s3 H3 scope ce fp) hu I11 hD11 hz11 hbk r11 fun s12 I12 => fin I12 nx
  exact codeAny_compStart_dict loop (T.self X.A 0 _ _ _ st4 loop)
/-- as a value -/
theorem pe_dcT {kx vx tg iter : Expr} {ifs : List Expr} {scope : Scope} {own : List (Str × Nat)} {pos : Pos} {wi : TI} {g : TG} {tt : TT} {tk tv : TE} (hu : X.A.units < cLine) (hc : X.calm = true) (hN : X.N.Nodup) (hi : PI X tg iter wi) (ok : BlkOk X.N X.env.scope scope own)
    (hg : ∀ (s : Shared) (H : Hp) (C : Addr) (cl : List (Str × Addr)) (fp : List Addr), PG (X.blk s H scope (compEnvC scope cl C X.env) fp) tg g) (ht : ∀ (s : Shared) (H : Hp) (C : Addr) (cl : List (Str × Addr)) (fp : List Addr), PTs (X.blk s H scope (compEnvC scope cl C X.env) fp) ifs tt)
    (hk : ∀ (s : Shared) (H : Hp) (C : Addr) (cl : List (Str × Addr)) (fp : List Addr), PE (X.blk s H scope (compEnvC scope cl C X.env) fp) kx tk)
    (he : ∀ (s : Shared) (H : Hp) (C : Addr) (cl : List (Str × Addr)) (fp : List Addr), PE (X.blk s H scope (compEnvC scope cl C X.env) fp) vx tv) (hs : ∀ x, foldedSetIterable iter X.env x = pure x := by intro _; rfl) :
    PE X (.DictComp kx vx [⟨tg, iter, ifs, 0⟩] scope pos) (tDcT wi g tt tk tv (own.map (·.2))) := by
  refine ⟨fun pins s σ H Q I h => ?_⟩
  rw [arm_eval_DictComp]
  refine dcT_core hu hc hN I hi ok hg ht hk he hs h fun D C s' m H' I' q hn f => ⟨m, hn, fun h'' sb => ?_⟩
  obtain ⟨f0, f1, f2, f3, f4, f5⟩ := f
  exact ⟨.ref D, H', I'.turned (t' := s'.toks) (fun b o hb e => (sb.2 b hb).trans e) f0 f1 f3 f4 f5, rfl, q⟩
end
end L2
set_option Elab.async false
set_option linter.all false
set_option maxRecDepth 100000
/-! KX3: dict comprehensions over a dict, by types. -/
namespace K79
open PySem L2
open PyProof.Rows (envOfC)
theorem any_key (d : Dt) (r : List Int) : (d.any fun kv => decide (kv.1 = r)) = decide (r ∈ d.map (·.1)) := by
  induction d with
  | nil => simp
  | cons p d ih =>
    rw [List.any_cons, ih, List.map_cons]
    by_cases h1 : p.1 = r
    · simp [h1]
    · by_cases h2 : r ∈ d.map (·.1)
      · simp [h1, h2]
      · have h1' : ¬ r = p.1 := fun z => h1 z.symm
        have : ¬ r ∈ p.1 :: d.map (·.1) := fun z => by
          rcases List.mem_cons.mp z with z | z
          · exact h1' z
          · exact h2 z
        rw [decide_eq_false h1, decide_eq_false h2, decide_eq_false this]
        rfl
theorem putK_new {d : Dt} {r : List Int} {v : V} (h : r ∉ d.map (·.1)) : putK d r v = d ++ [(r, v)] := by
  unfold putK
  rw [any_key, decide_eq_false h]
  rfl
/-- the table of a function over the keys -/
def tab (d : Dt) (f : List Int → V) : Dt := d.map fun q => (q.1, f q.1)
theorem tab_keys (d : Dt) (f : List Int → V) : (tab d f).map (·.1) = d.map (·.1) := by unfold tab; rw [List.map_map]; rfl
theorem tab_len (d : Dt) (f : List Int → V) : (tab d f).length = d.length := List.length_map ..
theorem tab_snoc {d : Dt} {f : List Int → V} (nd : (d.map (·.1)).Nodup) {n : Nat} {q : List Int × V} (e : d[n]? = some q) : putK (tab (d.take n) f) q.1 (f q.1) = tab (d.take (n + 1)) f := by
  have h : q.1 ∉ (tab (d.take n) f).map (·.1) := by
    rw [tab_keys, List.map_take]
    intro hm
    obtain ⟨i, hi⟩ := List.mem_iff_getElem?.mp hm
    rw [List.getElem?_take] at hi
    split at hi
    · rename_i hlt
      have e2 : (d.map (·.1))[n]? = some q.1 := by rw [List.getElem?_map, e]; rfl
      have l1 := (List.getElem?_eq_some_iff.mp hi).1
      have := (List.getElem?_inj l1 nd).mp (hi.trans e2.symm)
      omega
    · cases hi
  rw [putK_new h, List.take_add_one, e]
  unfold tab
  rw [List.map_append]
  rfl
def DcI (S1 H1 : Hp) (D : Addr) (d : Dt) (H' : Hp) : Prop := ∃ S' H'', Grow S1 H1 S' H'' ∧ H'' D = none ∧ H' = upd H'' D (.dT (toK d))
theorem DcI.same {S1 H1 H' : Hp} {D : Addr} {d : Dt} (h : DcI S1 H1 D d H') : Same S1 H' := fun b o e => by
  obtain ⟨S', H'', g, hD, rfl⟩ := h
  have q := g.i _ _ (g.s _ _ e)
  rw [upd_ne (ne_of_none q hD)]
  exact q
section
variable {X : Cx} {O : Owns} {Γ : Env} {a kx vx : Expr} {pos px : Pos} {x : Str} {sc : Scope} {k : Nat} {d : Dt} {f : List Int → V}
theorem et_dcD (hu : X.A.units < cLine) (hO : LcOk X sc x k) (hi : ETy X O Γ a (tDic d)) (nd : (d.map (·.1)).Nodup) (hl : d.length ≤ 99999) (hk : ∀ q ∈ d, BlkE X sc O (Γ.set k (some (tRow q.1))) kx (tRow q.1)) (hv : ∀ q ∈ d, BlkE X sc O (Γ.set k (some (tRow q.1))) vx (tV (f q.1)))
    (hc : X.calm = true := by rfl) (hs : ∀ x, foldedSetIterable a X.env x = pure x := by intro _; rfl) : ETy X O Γ (.DictComp kx vx [⟨.Name x px, a, [], 0⟩] sc pos) (tDic (tab d f)) := fun σ F S H Q g oo i q pins s I => by
  have z := (pe_dcT (pos := pos) hu hc hO.nd (pi_keys (pe_w (X := X) (e := a))) hO.ok (hO.pg (px := px)) (pts_w (X := X) (ifs := []) (sc := sc)) (pe_wB (X := X) (e := kx) (sc := sc)) (pe_wB (X := X) (e := vx) (sc := sc)) hs).run pins s σ H (fun y H' => ∃ p H3, y = .ref p ∧ H' = upd H3 p (.dT (toK (tab d f))) ∧ H3 p = none ∧ ∃ S3, Grow S H S3 H3) I (by
    refine hi σ F S H _ g oo i fun v S1 H1 g1 ⟨b, od, e1, e2⟩ => ⟨b, od, e1, .inr ⟨toK d, g1.i _ _ e2, fun D hD => ?_⟩⟩
    have oo1 := oo.grow g1
    have gσ := g.m g1.s
    refine ⟨fun n m H => m = d.length - n ∧ n ≤ d.length ∧ DcI S1 H1 D (tab (d.take n) f) H, ⟨d.length, by simp, Nat.zero_le _, S1, H1, .refl g1.i, hD, rfl⟩, ?_⟩
    rintro n m H ⟨rfl, hn, h⟩
    by_cases hlt : n < d.length
    · refine .inr ⟨⟨h.same _ _ e2, by rw [toK_len]; exact hlt⟩, DcI S1 H1 D (tab (d.take (n + 1)) f), fun H' hN => ⟨d.length - (n + 1), by omega, rfl, hlt, hN⟩, fun y H' hy => ?_⟩
      obtain ⟨rfl, kk, vv, c, hkk, rfl, hc⟩ := hy
      obtain ⟨qq, hqq, ez⟩ := at_map hkk
      cases ez
      rw [dk_kV] at hc
      obtain ⟨S', H'', g2, hD2, rfl⟩ := h
      have nc : c ≠ D := fun z => by rw [z, upd_same] at hc; cases hc
      rw [upd_ne nc] at hc
      obtain ⟨S2, g3, h3⟩ := absorb g2.i hc
      have g23 := g2.trans g3
      have sub : Same S2 (upd H'' D (.dT (toK (tab (d.take n) f)))) := fun b u e => by
        have q := g23.i b u e
        rw [upd_ne (ne_of_none q hD2)]
        exact q
      have ooo : OwnOk O F S2 (upd H'' D (.dT (toK (tab (d.take n) f)))) := by
        refine (oo1.grow g23).grow ⟨Same.refl _, sub, same_upd hD2, fun b u e n => ?_⟩
        rw [e] at n
        cases n
      have hσ : EnvOk (Γ.set k (some (tRow qq.1))) ((wipe σ [k]).set k (some (.ref c))) S2 := by
        have z := (env_wipe (gσ.m g23.s) k).set k (T := tRow qq.1) (v := .ref c) ⟨c, rfl, h3⟩
        rw [List.set_set] at z
        exact z
      have hm := List.mem_of_getElem? hqq
      refine ⟨wipe_set k (some (.ref c)), ?_⟩
      show (if (true : Bool) = true then wB X sc kx _ _ _ else DcI S1 H1 D (tab (d.take (n + 1)) f) (upd H'' D (.dT (toK (tab (d.take n) f)))))
      rw [if_pos rfl]
      intro s0 H0 C cl fp
      refine hk qq hm s0 H0 C cl fp _ F S2 _ _ hσ ooo sub fun y S3 H3 g4 ⟨c2, e3, e4⟩ => ?_
      intro s1 H01 C1 cl1 fp1
      refine hv qq hm s1 H01 C1 cl1 fp1 _ F S3 H3 _ (hσ.m g4.s) (ooo.grow g4) g4.i fun z S4 H4 g5 hz => ?_
      have hz : z = f qq.1 := hz
      subst e3 hz
      obtain ⟨H5, e5, n5, g6⟩ := (g4.trans g5).hide (fun _ z => by cases z) g23.i hD2
      subst e5
      refine ⟨toK (tab (d.take n) f), dk qq.1, c2, rfl, ?_, upd_same, ?_, ?_⟩
      · rw [dk_kV]; exact g5.i _ _ (g5.s _ _ e4)
      · rw [toK_len, tab_len, List.length_take]
        exact Nat.lt_of_le_of_lt (show min n d.length ≤ 99999 by omega) (by decide)
      · rw [putK_toK, tab_snoc nd hqq, upd_upd]
        exact ⟨S4, H5, g23.trans g6, n5, rfl⟩
    · have e : n = d.length := by omega
      subst e
      rw [List.take_length] at h
      refine .inl ⟨⟨h.same _ _ e2, by rw [toK_len]; exact Nat.le_refl _⟩, ?_⟩
      obtain ⟨S', H'', g2, hD2, rfl⟩ := h
      exact ⟨D, H'', rfl, rfl, hD2, S', g1.trans g2⟩)
  refine thn z fun u s1 ⟨y, H1, I1, ry, p, H3, ey, eH, n3, S3, g3⟩ => ?_
  subst ey eH
  obtain ⟨od, I2⟩ := I1.lock (d := p) upd_same True.intro
  rw [upd_upd] at I2
  exact ⟨.ref p, _, I2, ry, q (.ref p) (upd S3 p (.frz od (.dT (toK (tab d f))))) _ (g3.trans (.new g3.i n3)) ⟨p, od, rfl, upd_same⟩⟩
end
end K79
set_option Elab.async false
set_option linter.all false
set_option maxRecDepth 100000
/-! KX4: sum(d.values()) of a dict with tuples as keys. -/
namespace K79
open PySem L2
open PyProof.Rows (envOfC)
section
variable {prog : Program} {w : World}
theorem meetsVals {d : Addr} {es : Array DictEntry} {ep : Nat} (hd : (d == sysModules) = false) :
    MeetsIn prog w (Builtin.«dict.values» ⟨[.ref d], []⟩) (fun _ R s => DT.Raw s.heap d es ep ∧
      R (.ok (.ret (.ref s.heap.objs.size))) { s with heap := s.heap.push { cls := .type "dict_values", data := .fields #[.ref d] } }) :=
  .of_wp fun A R s ⟨hm, h⟩ => by
    show wpAny _ _ (Builtin.Dict.noArgs "values" ⟨[.ref d], []⟩ >>= _) _ _ s
    refine wpAny_bind ?_
    unfold Builtin.Dict.noArgs
    refine wpAny_bind (wpAny_notOrdered_dict hm.typeIs ?_)
    show wpAny _ _ (pure d) _ _ s
    refine wpAny_pure ?_
    show wpAny _ _ (Builtin.Dict.showsAll d >>= _) _ _ s
    unfold Builtin.Dict.showsAll
    rw [if_neg (by rw [hd]; exact Bool.false_ne_true)]
    refine wpAny_bind (wpAny_pure ?_)
    exact wpAny_bind (wpAny_newObj_type (wpAny_pure ⟨_, rfl, h⟩))
end
def iV : V → Int
  | .int i => i
  | _ => 0
theorem preSum_ints (ns : List Int) : preSum (fun i => ns.getD i 0) ns.length = ns.sum := by
  have h := preSum_list (h := iV) (ns.map V.int) (fun i => ns.getD i 0) (fun i x e => by
    rw [List.getElem?_map] at e
    cases e2 : ns[i]? with
    | none => rw [e2] at e; cases e
    | some j =>
      rw [e2] at e
      cases e
      show ns.getD i 0 = j
      rw [List.getD_eq_getElem?_getD, e2]
      rfl) ns.length (by rw [List.length_map]; exact Nat.le_refl _)
  rw [h, List.take_of_length_le (by rw [List.length_map]; exact Nat.le_refl _), List.map_map]
  congr 1
  have : (iV ∘ V.int) = id := rfl
  rw [this, List.map_id]
def tSumVals (td : TE) : TE := fun σ H Q => td σ H fun x H1 => ∃ (a : Addr) (o : Obj) (kvs : List (List Key × V)) (ns : List Int), x = V.ref a ∧ H1 a = some (.frz o (.dT kvs)) ∧ kvs.map (·.2) = ns.map V.int ∧ Q (.int ns.sum) H1
section
variable {X : Cx} {o : Expr} {p pos apos mpos : Pos} {td : TE}
theorem pe_sumVals (hc : X.calm = true) (hg : Gl X "sum") (hm : X.mg "sum" = none) (hd : PE X o td) (hbase : attributeBase o "values" X.env (eval o X.env) = eval o X.env := by rfl) (hline : (apos.endLine == mpos.line) = true := by rfl)
    (hse : starEach [Expr.Call (.Attribute o "values" apos) [] [] mpos] X.env = [(false, eval (Expr.Call (.Attribute o "values" apos) [] [] mpos) X.env)] := by rfl) :
    PE X (.Call (.Name "sum" p) [.Call (.Attribute o "values" apos) [] [] mpos] [] pos) (tSumVals td) := by
  refine ⟨fun pins s σ H Q I h => ?_⟩
  refine wpAny_Call_Name_kw (ld_blt I hg hm (u := .builtin "sum") (by first | rfl | decide +kernel) ?_ (by first | decide +kernel | decide) (by first | decide +kernel | decide))
  rw [hse]
  refine PySem.callWith_builtin1 (wpAny_Call_method0_late hbase hline (thn (hd.run pins s σ H _ I h) fun v s1 ⟨x, H1, I1, r1, a, od, kvs, ns, ex, ha, hv, q⟩ => ?_))
  subst ex
  obtain rfl : v = Value.ref a := r1
  have hd0 := I1.hok a _ ha
  obtain ⟨hgd, z, hs, xs, pr, o', es, ep, ho, hx, hdt, he, _⟩ := hd0
  refine ⟨"dict", "dict.values", F.plainAttrs_dict, F.slot_dict_values, F.type_dict_values, ⟨o', ho, hx.1⟩, fun b e => ?_, Calls.callWith_builtin rfl (PySem.evalArgs_none ?_)⟩
  · cases e
    exact ⟨o', ho, hx.2.1⟩
  refine call_meetsIn F.slot_dict_values ⟨o', ho, hx.1⟩ F.entry_dict_values (F.args_dict_values_1 _) (meetsVals (es := es) (ep := ep) hs) ⟨⟨o', ho, hx, hdt⟩, ?_⟩
  have k1 : ∀ b u, s1.heap.get? b = some u → (s1.heap.push { cls := .type "dict_values", data := .fields #[.ref a] }).get? b = some u := fun b u e => Heap.get?_push_of_some _ e
  have hsz : es.size = ns.length := by
    have l1 : es.size = xs.length := size_of_entries he
    have l2 : kvs.length = xs.length := Paired.length pr
    have l3 := congrArg List.length hv
    rw [List.length_map, List.length_map] at l3
    omega
  have hval : ∀ (i : Nat) (e : DictEntry), es[i]? = some e → ∃ t, e.val = Value.int (ns.getD i 0) t := fun i e hi => by
    rw [← Array.getElem?_toList, he, List.getElem?_map] at hi
    cases e2 : xs[i]? with
    | none => rw [e2] at hi; cases hi
    | some q2 =>
      rw [e2] at hi
      cases hi
      obtain ⟨p2, h1, h2⟩ := L2.DX.pget pr e2
      have e3 : (kvs.map (·.2))[i]? = some p2.2 := by rw [List.getElem?_map, h1]; rfl
      rw [hv, List.getElem?_map] at e3
      cases e4 : ns[i]? with
      | none => rw [e4] at e3; cases e3
      | some j =>
        rw [e4] at e3
        have e3 : V.int j = p2.2 := Option.some.inj e3
        have r := h2.2.2
        rw [← e3] at r
        obtain ⟨t, ht⟩ := r
        exact ⟨t, by rw [List.getD_eq_getElem?_getD, e4]; exact ht⟩
  have I2 : Inv X pins σ H1 { s1 with heap := s1.heap.push { cls := .type "dict_values", data := .fields #[.ref a] } } := I1.kept (t' := s1.toks) k1
  have hlt : a < s1.heap.objs.size := Heap.lt_size ho
  have hz1 : (s1.heap.push { cls := .type "dict_values", data := .fields #[.ref a] }).objs.size = s1.heap.objs.size + 1 := Heap.size_push _ _
  refine call_sum_walkAnyS (DSub.iter_vals (a := a) (ob := o') (es := es) (ep := ep) (Heap.get?_push_size _ rfl) (k1 _ _ ho) hdt ?_)
  refine ⟨_, _, _, _, es.size, _, _, fun i => ns.getD i 0, rfl, (DSub.walksVal (A := X.A.in1) (a := a) (ob := o') (es := es) (ep := ep) (I := (s1.heap.push { cls := .type "dict_values", data := .fields #[.ref a] }).objs.size) (P := fun i v => ∃ t, v = Value.int (ns.getD i 0) t) (I.ok.hd hc) (by rw [hz1]; exact Nat.ne_of_lt (Nat.lt_succ_of_lt hlt)) hdt hval).toS,
    ⟨Heap.get?_push_size _ rfl, Heap.get?_push_of_some _ (k1 _ _ ho)⟩, fun b hb => ?_, fun i v h => h, fun s' t' hmv => ?_⟩
  · show b < ((s1.heap.push _).push _).objs.size
    rw [Heap.size_push, Heap.size_push]
    rcases List.mem_cons.mp hb with e | hb
    · rw [e, hz1]; exact Nat.lt_succ_self _
    · rw [List.mem_singleton.mp hb]; exact Nat.lt_succ_of_lt (Nat.lt_succ_of_lt hlt)
  · have hk : ∀ b u, (s1.heap.push { cls := .type "dict_values", data := .fields #[.ref a] }).get? b = some u → s'.heap.get? b = some u := fun b u e =>
      hmv.heap b u (fun hI => absurd (Heap.lt_size e) (by rw [List.mem_singleton.mp hI]; exact Nat.lt_irrefl _)) (Heap.get?_push_of_some _ e)
    rw [Moved.eq_with hmv]
    refine ⟨.int ns.sum, H1, I2.kept (t' := s'.toks) hk, ⟨t', ?_⟩, q⟩
    rw [hsz, preSum_ints]
end
section
variable {X : Cx} {O : Owns} {Γ : Env} {o : Expr} {p pos apos mpos : Pos} {d : Dt} {ns : List Int}
theorem et_sumVals (hm : X.mg "sum" = none) (hd : ETy X O Γ o (tDic d)) (hv : d.map (·.2) = ns.map V.int) (hg : Gl X "sum" := by rfl) (hc : X.calm = true := by rfl) (hbase : attributeBase o "values" X.env (eval o X.env) = eval o X.env := by rfl) (hline : (apos.endLine == mpos.line) = true := by rfl)
    (hse : starEach [Expr.Call (.Attribute o "values" apos) [] [] mpos] X.env = [(false, eval (Expr.Call (.Attribute o "values" apos) [] [] mpos) X.env)] := by rfl) : ETy X O Γ (.Call (.Name "sum" p) [.Call (.Attribute o "values" apos) [] [] mpos] [] pos) (tI ns.sum) := fun σ F S H Q g oo i q =>
  of_pe (pe_sumVals hc hg hm pe_w hbase hline hse) (hd σ F S H _ g oo i fun v S1 H1 g1 ⟨a, od, h1, h2⟩ => ⟨a, od, toK d, ns, h1, g1.i _ _ h2, by unfold toK; rw [List.map_map, ← hv]; rfl, q _ S1 H1 g1 rfl⟩)
end
end K79
set_option Elab.async false
set_option linter.all false
set_option maxRecDepth 100000
/-! D12: whole columns, steps, led rows. -/
namespace K79
open PySem L2
open PyProof.Rows (envOfC)
/-- the weighed hum's entries -/
def ents (L : Ln) (t : List Rat) : List Rat := (List.range t.length).map fun n => L.ls.getD n 0 * t.getD n 0
theorem ents_at {L : Ln} {t : List Rat} {n : Nat} (h : n < t.length) : (ents L t)[n]? = some (L.ls.getD n 0 * t.getD n 0) := by
  unfold ents
  rw [List.getElem?_map, List.getElem?_range h]
  rfl
theorem ents_len {L : Ln} {t : List Rat} : (ents L t).length = t.length := by unfold ents; rw [List.length_map, List.length_range]
structure WhOk (L : Ln) (t : List Rat) : Prop where
  len : t.length = L.ls.length
  l24 : t.length ≤ 24
  sz : ∃ c d, (∀ q ∈ L.ls, Sz c q) ∧ (∀ q ∈ t, Sz d q) ∧ t.length * (c + d) + (c + d) + 1 ≤ 9000
theorem WhOk.ent {L : Ln} {t : List Rat} (h : WhOk L t) : ∃ e, (∀ q ∈ ents L t, Sz e q) ∧ t.length * e + e + 1 ≤ 9000 := by
  obtain ⟨c, d, h1, h2, h3⟩ := h.sz
  refine ⟨c + d, fun q hq => ?_, h3⟩
  obtain ⟨n, hn, rfl⟩ := List.mem_map.mp (show q ∈ (List.range t.length).map _ from hq)
  have hn : n < t.length := by simpa using hn
  exact (h1 _ (getQ_mem (by rw [← h.len]; exact hn))).mul (h2 _ (getQ_mem hn))
theorem LnB.wh {L : Ln} (h : LnB L) {p : Nat} (hp : p ≤ 8) : WhOk L (hum L p) := by
  have n8 := h.n8
  have e : (hum L p).length = L.ls.length := by unfold hum; rw [List.length_map, h.len]
  refine ⟨e, by omega, 60, 500, h.lsSz, h.humSz hp, ?_⟩
  have : (hum L p).length * (60 + 500) ≤ 8 * (60 + 500) := Nat.mul_le_mul_right _ (by omega)
  omega
section
variable {P : Program} {w : World} {K : PySem.W.Frag} {mg : Str → Option Value} {base : Heap}
theorem lt_pow {n m : Nat} (h : n ≤ 2 ^ m) : n < 2 ^ (m + 1) := by
  have : 0 < 2 ^ m := Nat.pow_pos (by decide)
  rw [Nat.pow_succ]; omega
theorem ediv_nat' (a b : Nat) : ((a : Int) / (b : Int)) = ((a / b : Nat) : Int) := rfl
abbrev spWeighed (K : PySem.W.Frag) : Sp := spT (α := Ln × List Rat) (fun x => [tLine K x.1, tQs K x.2]) (fun x => WhOk x.1 x.2) (fun x => tTup K [tLst K ((colF (ents x.1 x.2)).map tI), tI (botF (ents x.1 x.2) : Nat)])
abbrev nWeighed : List Str := ["line", "told", "entries", "bottom", "entry", "section"]
theorem sc_weighed : FnScope nWeighed ["line", "told"] (defScope sWeighedHum) := ⟨rfl, rfl, rfl, by decide +kernel, rfl, by decide +kernel, by decide +kernel⟩
theorem fn_weighed (T : Txt K mg) : Fn P w K mg base "weighed_hum" 4 ["line", "told"] [] (spWeighed K) := by
  refine fn_of' (st := sWeighedHum) T.d_weighed_hum (fun _ _ _ _ _ _ us h => match us, h with | [_, _], _ => rfl) sc_weighed (fun _ => rfl) fun f cdv Ar outer s H E x pre hr S D hR _ => ?_
  obtain ⟨L, t⟩ := x
  have pre : WhOk L t := pre
  obtain ⟨e, he, h9⟩ := pre.ent
  have hlen := pre.len
  have l24 := pre.l24
  have nd := sc_weighed.nd
  have e0 : t.length = 0 ∨ 0 < t.length := by omega
  show BTy _ _ _ _ [some (tLine K L), some (tQs K t), none, none, none, none] _ _
  refine bt_setLc (T := tLst K ((ents L t).map (tQ K))) 2 (k := 5) ⟨nd, blkOk_by (own := [("section", 5)]) (N := nWeighed) (sc := defScope sWeighedHum) (by decide +kernel), rfl, rfl⟩ (pi_range1 rfl T.f_range pa_w rfl) ?_ ?_
  · refine rt_eq (rt_lcR1 t.length (fun n => tQ K (L.ls.getD n 0 * t.getD n 0)) (fun _ => true) (at_one (et_eq (et_lenT T.f_len (et_var 1)) (by rw [List.length_map]))) (by omega) (fun j hj => ifs_nil) (fun j hj _ s0 H0 C cl fp => et_call (x := (L.ls.getD j 0, t.getD j 0)) (fn_times T) (hr.mono (by decide)) ?_ (at_cons (et_ixT (et_lengths (L := L) T (et_var 0)) (et_var 5) rfl (map_at (getQ (by omega)))) (at_one (et_ixT (et_var 1) (et_var 5) rfl (map_at (getQ hj))))))) (congrArg (tLst K) (map_map_ty (f := tQ K) (g := fun n => L.ls.getD n 0 * t.getD n 0) (List.range t.length)))
    obtain ⟨c, d, z1, z2, z3⟩ := pre.sz
    exact ⟨c, d, z1 _ (getQ_mem (by omega)), z2 _ (getQ_mem hj), by omega⟩
  refine bt_set 3 nd et_int ?_
  refine bt_forL (ts := (ents L t).map (tQ K)) 4 (fun n => [some (tLine K L), some (tQs K t), some (tLst K ((ents L t).map (tQ K))), some (tI (botF ((ents L t).take n) : Nat)), none, none]) (fun _ => []) nd PassesOwn.never (et_var 2) (.refl _) rfl (fun S1 H1 g n U hU => ?_) ?_
  · obtain ⟨q, eq, rfl⟩ := at_map hU
    have hn : n < t.length := by have := (List.getElem?_eq_some_iff.mp eq).1; rwa [ents_len] at this
    have hq := he q (List.mem_of_getElem? eq)
    have hb := botF_le he n
    have hbp := botF_pos (ents L t) n
    have hdp := q.den_pos
    have hg : 0 < Nat.gcd (botF ((ents L t).take n)) q.den := Nat.gcd_pos_of_pos_left _ hbp
    have hg2 : Nat.gcd (botF ((ents L t).take n)) q.den ≤ q.den := Nat.gcd_le_right _ hdp
    have he0 : 0 < e := hq.pos
    have hne : n * e ≤ t.length * e := Nat.mul_le_mul_right _ (by omega)
    refine bt_set (T := tI (botF ((ents L t).take (n + 1)) : Nat)) 3 nd (et_eq (et_mulW ?_ (et_div (j := (Nat.gcd (botF ((ents L t).take n)) q.den : Nat)) (wide_div (b := e) (by omega) (by have := hq.2; rw [Int.natAbs_natCast]; omega) he0 (by omega)) (et_var 3) (et_call (x := ((botF ((ents L t).take n) : Int), (q.den : Int))) (fn_gcd T) (hr.mono (by decide)) trivial (at_cons (et_var 3) (at_one (et_q1 (et_var 4)))))) (et_q1 (et_var 4))) ?_) ?_
    · refine wide_mul (a := n * e + 1) (b := e) ?_ (by rw [Int.natAbs_natCast]; exact hq.2) (by omega) he0 (by omega)
      rw [ediv_nat', Int.natAbs_natCast]
      exact lt_pow (Nat.le_trans (Nat.div_le_self _ _) hb)
    · rw [botF_take eq]
      rfl
    · exact bt_turn (fun _ _ h => h) (el_eq (el_eq (el_eq (el_eq (el_no (el_no el_nil))))))
  · rw [List.length_map, List.take_length]
    have hb := botF_le he (ents L t).length
    rw [List.take_length, ents_len] at hb
    refine bt_ret (et_tup (at_cons (et_eq (et_lcL (x := "entry") (k := 4) ⟨nd, blkOk_by (own := [("entry", 4)]) (N := nWeighed) (sc := defScope sWeighedHum) (by decide +kernel), rfl, rfl⟩ (ents L t) (tQ K) (fun q => tI (q.num * ((botF (ents L t) / q.den : Nat) : Int))) (fun _ => true) (et_var 2) (by rw [ents_len]; omega) (fun y _ => ifs_nil) (fun y hy _ s0 H0 C cl fp => ?_)) (congrArg (tLst K) (map_map_ty (f := tI) (g := fun q => q.num * ((botF (ents L t) / q.den : Nat) : Int)) (ents L t)))) (at_one (et_var 3)))) hR
    have hq := he y hy
    refine et_mulW ?_ (et_q0 (et_var 4)) (et_eq (et_div (j := (y.den : Nat)) (wide_div (b := e) (by have := y.den_pos; omega) (by rw [Int.natAbs_natCast]; exact hq.2) hq.pos (by omega)) (et_var 3) (et_q1 (et_var 4))) rfl)
    refine wide_mul (a := e) (b := t.length * e + 1) hq.1 ?_ hq.pos (by omega) (by omega)
    rw [Int.natAbs_natCast]
    exact lt_pow (Nat.le_trans (Nat.div_le_self _ _) hb)
/-! ### whole_steps -/
def stepAt (L : Ln) (hs : List (List Rat)) (n : Nat) : List Int := hs.map fun t => (colF (ents L t)).getD n 0
def steps (L : Ln) (hs : List (List Rat)) : List (List Int) := (List.range L.ls.length).map (stepAt L hs)
abbrev spSteps (K : PySem.W.Frag) : Sp := spT (α := Ln × List (List Rat)) (fun x => [tLine K x.1, tTup K (x.2.map (tQs K))]) (fun x => (∀ t ∈ x.2, WhOk x.1 t) ∧ x.1.ls.length ≤ 24 ∧ x.2.length ≤ 6) (fun x => tLst K ((steps x.1 x.2).map tRow))
abbrev nSteps : List Str := ["line", "hums", "columns", "told", "section", "column"]
theorem sc_steps : FnScope nSteps ["line", "hums"] (defScope sWholeSteps) := ⟨rfl, rfl, rfl, by decide +kernel, rfl, by decide +kernel, by decide +kernel⟩
theorem fn_steps (T : Txt K mg) : Fn P w K mg base "whole_steps" 5 ["line", "hums"] [] (spSteps K) := by
  refine fn_of' (st := sWholeSteps) T.d_whole_steps (fun _ _ _ _ _ _ us h => match us, h with | [_, _], _ => rfl) sc_steps (fun _ => rfl) fun f cdv Ar outer s H E x pre hr S D hR _ => ?_
  obtain ⟨L, hs⟩ := x
  obtain ⟨hW, l24, h6⟩ : (∀ t ∈ hs, WhOk L t) ∧ L.ls.length ≤ 24 ∧ hs.length ≤ 6 := pre
  have nd := sc_steps.nd
  show BTy _ _ _ _ [some (tLine K L), some (tTup K (hs.map (tQs K))), none, none, none, none] _ _
  refine bt_set (T := tLst K (hs.map fun t => tLst K ((colF (ents L t)).map tI))) 2 nd (et_eq (et_lcT (x := "told") (k := 3) ⟨nd, blkOk_by (own := [("told", 3)]) (N := nSteps) (sc := defScope sWholeSteps) (by decide +kernel), rfl, rfl⟩ hs (tQs K) (fun t => tLst K ((colF (ents L t)).map tI)) (fun _ => true) (et_var 1) (by omega) (fun t ht => ifs_nil) (fun t ht _ s0 H0 C cl fp => et_ixT (k := 0) (et_call (x := (L, t)) (fn_weighed T) hr (hW t ht) (at_cons (et_var 0) (at_one (et_var 3)))) et_int rfl rfl)) (by rw [filt_true]; rfl)) ?_
  refine bt_ret (et_eq (et_lcR1 (x := "section") (k := 4) ⟨nd, blkOk_by (own := [("section", 4)]) (N := nSteps) (sc := defScope sWholeSteps) (by decide +kernel), rfl, rfl⟩ L.ls.length (fun n => tRow (stepAt L hs n)) (fun _ => true) T.f_range (et_lenLine (L := L) T (hr.mono (by decide)) l24 (et_var 0)) (by omega) (fun j hj => ifs_nil) (fun j hj _ s0 H0 C cl fp => ?_)) (congrArg (tLst K) (map_map_ty (f := tRow) (g := stepAt L hs) (List.range L.ls.length)))) hR
  refine et_le (et_tuple (ts := (stepAt L hs j).map tI) T.f_tuple (et_eq (et_lcL (x := "column") (k := 5) ⟨nd, blkOk_by (own := [("column", 5)]) (by rfl), rfl, rfl⟩ hs (fun t => tLst K ((colF (ents L t)).map tI)) (fun t => tI ((colF (ents L t)).getD j 0)) (fun _ => true) (et_var 2) (by omega) (fun t ht => ifs_nil) (fun t ht _ s1 H1 C1 cl1 fp1 => ?_)) (congrArg (tLst K) (map_map_ty (f := tI) (g := fun t => (colF (ents L t)).getD j 0) hs)))) le_tRow
  have hlc : (colF (ents L t)).length = L.ls.length := by unfold colF; rw [List.length_map, ents_len, (hW t ht).len]
  exact et_ixL (k := j) (et_var 5) (et_var 4) rfl (map_at (getD_at (by omega)))
end
end K79
set_option Elab.async false
set_option linter.all false
set_option maxRecDepth 100000
/-! D13: led rows, layers. -/
namespace K79
open PySem L2
open PyProof.Rows (envOfC)
def led (r a : List Int) (s : Int) : List Int := (List.range r.length).map fun i => r.getD i 0 + s * a.getD i 0
theorem led_len {r a : List Int} {s : Int} : (led r a s).length = r.length := by unfold led; rw [List.length_map, List.length_range]
def sgs (n : Nat) : List Int := if n = 0 then [1] else [1, -1]
theorem sgs_mem {n : Nat} {s : Int} (h : s ∈ sgs n) : s = 1 ∨ s = -1 := by
  unfold sgs at h
  split at h
  · exact .inl (by simpa using h)
  · simpa using h
theorem sgs_len (n : Nat) : (sgs n).length ≤ 2 := by
  unfold sgs
  split <;> decide
/-- one row's part of the layer ahead -/
def putRow (a : List Int) (sg : List Int) (acc : Dt) (p : List Int × V) : Dt := sg.foldl (fun acc s => putK acc (led p.1 a s) (.bl true)) acc
def nextL (d : Dt) (a : List Int) (sg : List Int) : Dt := d.foldl (putRow a sg) []
def lay (st : List (List Int)) (m : Nat) : Nat → Dt
  | 0 => [(List.replicate m 0, .bl true)]
  | k + 1 => nextL (lay st m k) (st.getD k []) (sgs k)
theorem putRow_len (a : List Int) : ∀ (sg : List Int) (acc : Dt) (p : List Int × V), (putRow a sg acc p).length ≤ acc.length + sg.length
  | [], acc, p => Nat.le_refl _
  | s :: sg, acc, p => by
    have h1 := putRow_len a sg (putK acc (led p.1 a s) (.bl true)) p
    have h2 := length_putK acc (led p.1 a s) (V.bl true)
    show (putRow a sg (putK acc (led p.1 a s) (.bl true)) p).length ≤ acc.length + (sg.length + 1)
    omega
theorem foldl_len (a sg : List Int) : ∀ (d acc : Dt), (d.foldl (putRow a sg) acc).length ≤ acc.length + d.length * sg.length
  | [], acc => by simp
  | p :: d, acc => by
    have h1 := foldl_len a sg d (putRow a sg acc p)
    have h2 := putRow_len a sg acc p
    rw [List.foldl_cons, List.length_cons, Nat.add_mul]
    omega
theorem lay_len (st : List (List Int)) (m : Nat) : ∀ k, (lay st m k).length ≤ 2 ^ k
  | 0 => Nat.le_refl _
  | k + 1 => by
    have h1 := foldl_len (st.getD k []) (sgs k) (lay st m k) []
    have h2 := lay_len st m k
    have h3 : (lay st m k).length * (sgs k).length ≤ 2 ^ k * 2 := Nat.mul_le_mul h2 (sgs_len k)
    show (nextL _ _ _).length ≤ _
    unfold nextL
    rw [Nat.pow_succ]
    rw [List.length_nil] at h1
    omega
theorem putK_keys {d : Dt} {r : List Int} {v : V} : ∀ q, q ∈ (putK d r v).map (·.1) ↔ q ∈ d.map (·.1) ∨ q = r := fun q => by
  unfold putK
  rw [any_key]
  by_cases h : r ∈ d.map (·.1)
  · rw [decide_eq_true h, if_pos rfl, List.map_map]
    have e : ((fun p : List Int × V => p.1) ∘ fun kv : List Int × V => if kv.1 = r then (kv.1, v) else kv) = fun p => p.1 := by
      funext p
      show (if p.1 = r then (p.1, v) else p).1 = p.1
      split <;> rfl
    rw [e]
    constructor
    · exact .inl
    · rintro (z | z)
      · exact z
      · rw [z]; exact h
  · rw [decide_eq_false h, if_neg (by decide), List.map_append, List.mem_append]
    simp
theorem putK_nd {d : Dt} {r : List Int} {v : V} (nd : (d.map (·.1)).Nodup) : ((putK d r v).map (·.1)).Nodup := by
  by_cases h : r ∈ d.map (·.1)
  · have e2 : (putK d r v).map (·.1) = d.map (·.1) := by
      unfold putK
      rw [any_key, decide_eq_true h, if_pos rfl, List.map_map]
      have e : ((fun p : List Int × V => p.1) ∘ fun kv : List Int × V => if kv.1 = r then (kv.1, v) else kv) = fun p => p.1 := by
        funext p
        show (if p.1 = r then (p.1, v) else p).1 = p.1
        split <;> rfl
      rw [e]
    rw [e2]
    exact nd
  · rw [putK_new h, List.map_append]
    exact List.nodup_append.mpr ⟨nd, by simp, fun a ha b hb => by
      have hb : b = r := by simpa using hb
      rw [hb]
      exact fun z => h (z ▸ ha)⟩
section
variable {P : Program} {w : World} {K : PySem.W.Frag} {mg : Str → Option Value} {base : Heap}
/-! ### led_row -/
abbrev spLed : Sp := spT (α := List Int × List Int × Int) (fun x => [tRow x.1, tRow x.2.1, tI x.2.2]) (fun x => x.1.length = x.2.1.length ∧ x.1.length ≤ 6 ∧ (x.2.2 = 1 ∨ x.2.2 = -1)) (fun x => tRow (led x.1 x.2.1 x.2.2))
abbrev nLed : List Str := ["row", "adds", "sign", "at"]
theorem sc_led : FnScope nLed ["row", "adds", "sign"] (defScope sLedRow) := ⟨rfl, rfl, rfl, by decide +kernel, rfl, by decide +kernel, by decide +kernel⟩
theorem fn_led (T : Txt K mg) : Fn P w K mg base "led_row" 1 ["row", "adds", "sign"] [] spLed := by
  refine fn_of' (st := sLedRow) T.d_led_row (fun _ _ _ _ _ _ us h => match us, h with | [_, _, _], _ => rfl) sc_led (fun _ => rfl) fun f cdv Ar outer s H E x pre hr S D hR _ => ?_
  obtain ⟨r, a, sg⟩ := x
  obtain ⟨hl, h6, hs⟩ : r.length = a.length ∧ r.length ≤ 6 ∧ (sg = 1 ∨ sg = -1) := pre
  have nd := sc_led.nd
  show BTy _ _ _ _ [some (tRow r), some (tRow a), some (tI sg), none] _ _
  refine bt_lv (tt_eq' (et_var 2) et_int) (fun h => ?_) fun h => ?_
  · have h : sg = 1 := of_decide_eq_true h
    refine bt_ret (et_le (et_tuple (ts := (led r a sg).map tI) T.f_tuple (et_eq (et_lcR1 (x := "at") (k := 3) ⟨nd, blkOk_by (own := [("at", 3)]) (N := nLed) (sc := defScope sLedRow) (by decide +kernel), rfl, rfl⟩ r.length (fun i => tI (r.getD i 0 + sg * a.getD i 0)) (fun _ => true) T.f_range (et_eq (et_lenT T.f_len (et_le (et_var 0) tRow_tup)) (by rw [List.length_map])) (by omega) (fun j hj => ifs_nil) (fun j hj _ s0 H0 C cl fp => ?_)) (congrArg (tLst K) (map_map_ty (f := tI) (g := fun i => r.getD i 0 + sg * a.getD i 0) (List.range r.length))))) le_tRow) hR
    refine et_eq (et_add (et_ixT (et_le (et_var 0) tRow_tup) (et_var 3) rfl (map_at (getD_at hj))) (et_ixT (et_le (et_var 1) tRow_tup) (et_var 3) rfl (map_at (getD_at (by omega))))) ?_
    rw [h, Int.one_mul]
  · have h : ¬ sg = 1 := of_decide_eq_false h
    have h : sg = -1 := hs.elim (fun z => absurd z h) id
    refine bt_ret (et_le (et_tuple (ts := (led r a sg).map tI) T.f_tuple (et_eq (et_lcR1 (x := "at") (k := 3) ⟨nd, blkOk_by (own := [("at", 3)]) (N := nLed) (sc := defScope sLedRow) (by decide +kernel), rfl, rfl⟩ r.length (fun i => tI (r.getD i 0 + sg * a.getD i 0)) (fun _ => true) T.f_range (et_eq (et_lenT T.f_len (et_le (et_var 0) tRow_tup)) (by rw [List.length_map])) (by omega) (fun j hj => ifs_nil) (fun j hj _ s0 H0 C cl fp => ?_)) (congrArg (tLst K) (map_map_ty (f := tI) (g := fun i => r.getD i 0 + sg * a.getD i 0) (List.range r.length))))) le_tRow) hR
    refine et_eq (et_sub (et_ixT (et_le (et_var 0) tRow_tup) (et_var 3) rfl (map_at (getD_at hj))) (et_ixT (et_le (et_var 1) tRow_tup) (et_var 3) rfl (map_at (getD_at (by omega))))) ?_
    rw [h]
    congr 1
    omega
/-! ### signs_at -/
abbrev spSignsAt (K : PySem.W.Frag) : Sp := spT (α := Nat) (fun n => [tI n]) (fun _ => True) (fun n => tTup K ((sgs n).map tI))
theorem sc_signsAt : FnScope ["section"] ["section"] (defScope sSignsAt) := ⟨rfl, rfl, rfl, by decide +kernel, rfl, by decide +kernel, by decide +kernel⟩
theorem fn_signsAt (T : Txt K mg) : Fn P w K mg base "signs_at" 1 ["section"] [] (spSignsAt K) := by
  refine fn_of' (st := sSignsAt) T.d_signs_at (fun _ _ _ _ _ _ us h => match us, h with | [_], _ => rfl) sc_signsAt (fun _ => rfl) fun f cdv Ar outer s H E n pre hr S D hR _ => ?_
  show BTy _ _ _ _ [some (tI n)] _ _
  refine bt_ret (et_if (k := decide (n = 0)) (tt_eq (tt_eq' (et_var 0) et_int) ?_) (fun h => ?_) (fun h => ?_)) hR
  · by_cases z : n = 0
    · rw [decide_eq_true z]; exact decide_eq_true (by omega)
    · rw [decide_eq_false z]; exact decide_eq_false (by omega)
  · have h := of_decide_eq_true h
    unfold sgs
    rw [if_pos h]
    exact et_tup (ts := [tI 1]) (at_one et_int)
  · have h := of_decide_eq_false h
    unfold sgs
    rw [if_neg h]
    exact et_tup (ts := [tI 1, tI (-1)]) (at_cons et_int (at_one (et_eq (et_neg et_int) rfl)))
/-! ### whole_layers -/
structure StOk (st : List (List Int)) (m : Nat) : Prop where
  m6 : m ≤ 6
  n8 : st.length ≤ 8
  len : ∀ a ∈ st, a.length = m
theorem getL {st : List (List Int)} {n : Nat} (h : n < st.length) : st[n]? = some (st.getD n []) := by
  rw [List.getD_eq_getElem?_getD, List.getElem?_eq_getElem h]
  rfl
theorem putRow_keylen {a sg : List Int} {m : Nat} : ∀ {sg : List Int} {acc : Dt} {p : List Int × V}, p.1.length = m → (∀ q ∈ acc, q.1.length = m) → ∀ q ∈ putRow a sg acc p, q.1.length = m
  | [], acc, p, hp, h => h
  | s :: sg, acc, p, hp, h => by
    refine putRow_keylen (sg := sg) (acc := putK acc (led p.1 a s) (.bl true)) hp fun q hq => ?_
    have : q.1 ∈ (putK acc (led p.1 a s) (V.bl true)).map (·.1) := List.mem_map.mpr ⟨q, hq, rfl⟩
    rcases (putK_keys q.1).mp this with z | z
    · obtain ⟨q', hq', e⟩ := List.mem_map.mp z
      rw [← e]; exact h q' hq'
    · rw [z, led_len]; exact hp
theorem foldl_keylen {a sg : List Int} {m : Nat} : ∀ {d acc : Dt}, (∀ q ∈ d, q.1.length = m) → (∀ q ∈ acc, q.1.length = m) → ∀ q ∈ d.foldl (putRow a sg) acc, q.1.length = m
  | [], acc, _, h => h
  | p :: d, acc, hd, h => foldl_keylen (d := d) (fun q hq => hd q (List.mem_cons_of_mem _ hq)) (putRow_keylen (sg := sg) (hd p List.mem_cons_self) h)
theorem lay_keylen (st : List (List Int)) (m : Nat) : ∀ k, ∀ q ∈ lay st m k, q.1.length = m
  | 0, q, hq => by
    have : q = (List.replicate m 0, V.bl true) := by simpa [lay] using hq
    rw [this]; simp
  | k + 1, q, hq => foldl_keylen (lay_keylen st m k) (fun q hq => by cases hq) q hq
theorem putRow_nd {a : List Int} : ∀ {sg : List Int} {acc : Dt} {p : List Int × V}, (acc.map (·.1)).Nodup → ((putRow a sg acc p).map (·.1)).Nodup
  | [], _, _, h => h
  | s :: sg, acc, p, h => putRow_nd (sg := sg) (acc := putK acc (led p.1 a s) (.bl true)) (putK_nd h)
theorem foldl_nd {a sg : List Int} : ∀ {d acc : Dt}, (acc.map (·.1)).Nodup → ((d.foldl (putRow a sg) acc).map (·.1)).Nodup
  | [], _, h => h
  | p :: d, acc, h => foldl_nd (d := d) (putRow_nd (sg := sg) (p := p) h)
theorem lay_nd (st : List (List Int)) (m : Nat) : ∀ k, ((lay st m k).map (·.1)).Nodup
  | 0 => by simp [lay]
  | k + 1 => foldl_nd (by simp)
def lays (st : List (List Int)) (m : Nat) : List Dt := (List.range (st.length + 1)).map (lay st m)
abbrev spLayers (K : PySem.W.Frag) : Sp := spT (α := List (List Int) × Nat) (fun x => [tLst K (x.1.map tRow), tI x.2]) (fun x => StOk x.1 x.2) (fun x => tLst K ((lays x.1 x.2).map tDic))
abbrev nLayers : List Str := ["steps", "many", "layer", "found", "section", "adds", "ahead", "row", "sign"]
theorem sc_layers : FnScope nLayers ["steps", "many"] (defScope sWholeLayers) := ⟨rfl, rfl, rfl, by decide +kernel, rfl, by decide +kernel, by decide +kernel⟩
theorem fold_take {α β : Type} {f : β → α → β} {l : List α} {b : β} {n : Nat} {x : α} (h : l[n]? = some x) : (l.take (n + 1)).foldl f b = f ((l.take n).foldl f b) x := by
  rw [List.take_add_one, h, Option.toList_some, List.foldl_append]
  rfl
theorem fn_layers (T : Txt K mg) : Fn P w K mg base "whole_layers" 2 ["steps", "many"] [] (spLayers K) := by
  refine fn_of' (st := sWholeLayers) T.d_whole_layers (fun _ _ _ _ _ _ us h => match us, h with | [_, _], _ => rfl) sc_layers (fun _ => rfl) fun f cdv Ar outer s H E x pre hr S D hR _ => ?_
  obtain ⟨st, m⟩ := x
  have ok : StOk st m := pre
  have m6 := ok.m6
  have n8 := ok.n8
  have nd := sc_layers.nd
  show BTy _ _ _ _ [some (tLst K (st.map tRow)), some (tI m), none, none, none, none, none, none, none] _ _
  refine bt_set (T := tDic (lay st m 0)) 2 nd (et_dsp1 (r := List.replicate m 0) (units1 hr) (et_le (et_tuple T.f_tuple (et_rep et_int (et_var 1) (by omega))) le_tRow) et_bl) ?_
  refine bt_newL1 3 nd (et_var 2) fun pf => ?_
  refine bt_forE (ts := st.map tRow) 4 5 (fun n => [some (tLst K (st.map tRow)), some (tI m), some (tDic (lay st m n)), some (tV (.ref pf)), none, none, none, none, none]) (fun n => [(pf, oL (((List.range (n + 1)).map (lay st m)).map tDic))]) nd PassesOwn.never (pi_enum rfl T.f_enumerate pa_w) (enTy_L (et_var 0)) (.refl _) rfl (fun S1 H1 g n U hU => ?_) ?_
  · obtain ⟨a, ea, rfl⟩ := at_map hU
    have hn : n < st.length := (List.getElem?_eq_some_iff.mp ea).1
    have ead : st.getD n [] = a := Option.some.inj ((getL hn).symm.trans ea)
    have hal := ok.len a (List.mem_of_getElem? ea)
    have hlay := lay_len st m n
    have h2n : 2 ^ n ≤ 2 ^ 8 := Nat.pow_le_pow_right (by decide) (by omega)
    have hlay1 := lay_len st m (n + 1)
    have h2n1 : 2 ^ (n + 1) ≤ 2 ^ 8 := Nat.pow_le_pow_right (by decide) (by omega)
    refine bt_newD 6 nd fun pa => ?_
    refine bt_forL (ts := (lay st m n).map fun p => tRow p.1) 7 (fun _ => [some (tLst K (st.map tRow)), some (tI m), some (tDic (lay st m n)), some (tV (.ref pf)), some (tI (n : Nat)), some (tRow a), some (tV (.ref pa)), none, none]) (fun i => [(pa, oDi (((lay st m n).take i).foldl (putRow a (sgs n)) [])), (pf, oL (((List.range (n + 1)).map (lay st m)).map tDic))]) nd PassesOwn.never (et_listD rfl T.f_list (et_var 2)) (.refl _) rfl (fun S2 H2 g2 i U2 hU2 => ?_) ?_
    · obtain ⟨p, ep, rfl⟩ := at_map hU2
      have hpl := lay_keylen st m n p (List.mem_of_getElem? ep)
      have hil : ((lay st m n).take i).length ≤ 256 := by rw [List.length_take]; omega
      refine bt_forT (ts := (sgs n).map tI) 8 (fun _ => [some (tLst K (st.map tRow)), some (tI m), some (tDic (lay st m n)), some (tV (.ref pf)), some (tI (n : Nat)), some (tRow a), some (tV (.ref pa)), some (tRow p.1), none]) (fun j => [(pa, oDi (putRow a ((sgs n).take j) (((lay st m n).take i).foldl (putRow a (sgs n)) []) p)), (pf, oL (((List.range (n + 1)).map (lay st m)).map tDic))]) nd PassesOwn.never (et_call (x := n) (fn_signsAt T) (hr.mono (by decide)) trivial (at_one (et_var 4))) (.refl _) rfl (fun S3 H3 g3 j U3 hU3 => ?_) ?_
      · obtain ⟨sg, es, rfl⟩ := at_map hU3
        have hsg := sgs_mem (List.mem_of_getElem? es)
        refine bt_dput 0 rfl (units1 hr) (et_var 6) (et_call (x := (p.1, a, sg)) (fn_led T) (hr.mono (by decide)) ⟨show p.1.length = a.length by omega, show p.1.length ≤ 6 by omega, hsg⟩ (at_cons (et_var 7) (at_cons (et_var 5) (at_one (et_var 8))))) et_bl ?_ ?_
        · have h1 := putRow_len a ((sgs n).take j) (((lay st m n).take i).foldl (putRow a (sgs n)) []) p
          have h2 := foldl_len a (sgs n) ((lay st m n).take i) []
          have h3 := sgs_len n
          have h4 : ((lay st m n).take i).length * (sgs n).length ≤ 256 * 2 := Nat.mul_le_mul hil h3
          have h5 : ((sgs n).take j).length ≤ 2 := by rw [List.length_take]; omega
          rw [List.length_nil] at h2
          omega
        · refine bt_nil fun σ S H g e o => ⟨S, g, e.le (el_eq (el_eq (el_eq (el_eq (el_eq (el_eq (el_eq (el_eq (el_no el_nil))))))))), ?_⟩
          show OwnOk [(pa, oDi (putRow a ((sgs n).take (j + 1)) _ p)), _] _ _ _
          unfold putRow
          rw [fold_take es]
          exact o
      · rw [List.length_map, List.take_length]
        refine bt_nil fun σ S H g e o => ⟨S, g, e.le (el_eq (el_eq (el_eq (el_eq (el_eq (el_eq (el_eq (el_no (el_no el_nil))))))))), ?_⟩
        show OwnOk [(pa, oDi (((lay st m n).take (i + 1)).foldl (putRow a (sgs n)) [])), _] _ _ _
        rw [fold_take ep]
        exact o
    · rw [List.length_map, List.take_length]
      have e1 : (lay st m n).foldl (putRow a (sgs n)) [] = lay st m (n + 1) := by
        show _ = nextL (lay st m n) (st.getD n []) (sgs n)
        rw [ead]
        rfl
      rw [e1]
      refine bt_no (tt_gt (et_lenOD 0 rfl T.f_len (et_var 6)) (et_intG T.i_MOST_ROWS)) (decide_eq_false (by omega)) ?_
      refine bt_frzD 6 rfl ?_
      refine bt_app (T := tDic (lay st m (n + 1))) 0 rfl (et_var 3) (et_var 6) (by rw [List.length_map, List.length_map, List.length_range]; omega) ?_
      refine bt_set 2 nd (et_var 6) ?_
      refine bt_nil fun σ S H g e o => ⟨S, g, e.le (el_eq (el_eq (el_eq (el_eq (el_no (el_no (el_no (el_no (el_no el_nil))))))))), ?_⟩
      show OwnOk [(pf, oL (((List.range (n + 1 + 1)).map (lay st m)).map tDic))] _ _ _
      rw [range_snoc, List.map_append]
      exact o
  · rw [List.length_map]
    refine bt_frzL 3 rfl ?_
    exact bt_ret (et_var 3) hR
end
end K79
set_option Elab.async false
set_option linter.all false
set_option maxRecDepth 100000
/-! D14: the tables of ways, words picked. -/
namespace K79
open PySem L2
open PyProof.Rows (envOfC)
/-- how many ends of j signs bring the row to nothing -/
def cnt (st : List (List Int)) (m : Nat) : Nat → List Int → Int
  | 0, r => if r = List.replicate m 0 then 1 else 0
  | j + 1, r => ((sgs (st.length - 1 - j)).map fun s => cnt st m j (led r (st.getD (st.length - 1 - j) []) s)).sum
def Wt (st : List (List Int)) (m j : Nat) : Dt := tab (lay st m (st.length - j)) fun r => .int (cnt st m j r)
def waysL (st : List (List Int)) (m : Nat) : List Dt := ((List.range (st.length + 1)).map (Wt st m)).reverse
theorem waysL_at {st : List (List Int)} {m k : Nat} (h : k ≤ st.length) : (waysL st m)[k]? = some (Wt st m (st.length - k)) := by
  unfold waysL
  rw [List.getElem?_reverse (by simp; omega), List.length_map, List.length_range, List.getElem?_map, List.getElem?_range (by omega)]
  show some _ = _
  congr 2
theorem valV_tab {d : Dt} {f : List Int → V} {r : List Int} (h : r ∈ d.map (·.1)) : valV (tab d f) r = some (f r) := by
  induction d with
  | nil => cases h
  | cons p d ih =>
    by_cases e : p.1 = r
    · have := valV_pos (p := (p.1, f p.1)) (r := tab d f) (k := r) e
      exact this.trans (by show some (f p.1) = _; rw [e])
    · have h2 : r ∈ d.map (·.1) := by
        rcases List.mem_cons.mp h with z | z
        · exact absurd z.symm e
        · exact z
      have := ih h2
      show valV ((p.1, f p.1) :: tab d f) r = _
      unfold valV at this ⊢
      rw [List.find?_cons_of_neg (by simpa using e)]
      exact this
theorem putRow_mono {a : List Int} : ∀ {sg : List Int} {acc : Dt} {p : List Int × V} {q : List Int}, q ∈ acc.map (·.1) → q ∈ (putRow a sg acc p).map (·.1)
  | [], _, _, _, h => h
  | s :: sg, acc, p, q, h => putRow_mono (sg := sg) (acc := putK acc (led p.1 a s) (.bl true)) ((putK_keys q).mpr (.inl h))
theorem putRow_mem {a : List Int} : ∀ {sg : List Int} {acc : Dt} {p : List Int × V} {s : Int}, s ∈ sg → led p.1 a s ∈ (putRow a sg acc p).map (·.1)
  | [], _, _, _, h => by cases h
  | t :: sg, acc, p, s, h => by
    rcases List.mem_cons.mp h with z | z
    · rw [z]
      exact putRow_mono (sg := sg) (acc := putK acc (led p.1 a t) (.bl true)) ((putK_keys _).mpr (.inr rfl))
    · exact putRow_mem (sg := sg) (acc := putK acc (led p.1 a t) (.bl true)) z
theorem foldl_mono {a sg : List Int} : ∀ {d acc : Dt} {q : List Int}, q ∈ acc.map (·.1) → q ∈ (d.foldl (putRow a sg) acc).map (·.1)
  | [], _, _, h => h
  | p :: d, acc, q, h => foldl_mono (d := d) (putRow_mono (sg := sg) h)
theorem foldl_mem {a sg : List Int} : ∀ {d acc : Dt} {p : List Int × V} {s : Int}, p ∈ d → s ∈ sg → led p.1 a s ∈ (d.foldl (putRow a sg) acc).map (·.1)
  | [], _, _, _, h, _ => by cases h
  | q :: d, acc, p, s, h, hs => by
    rcases List.mem_cons.mp h with z | z
    · subst z
      exact foldl_mono (d := d) (putRow_mem hs)
    · exact foldl_mem (d := d) z hs
/-- the layers are closed -/
theorem lay_step {st : List (List Int)} {m k : Nat} {r : List Int} {s : Int} (h : r ∈ (lay st m k).map (·.1)) (hs : s ∈ sgs k) : led r (st.getD k []) s ∈ (lay st m (k + 1)).map (·.1) := by
  obtain ⟨p, hp, rfl⟩ := List.mem_map.mp h
  exact foldl_mem hp hs
theorem lay_klen {st : List (List Int)} {m k : Nat} {r : List Int} (h : r ∈ (lay st m k).map (·.1)) : r.length = m := by
  obtain ⟨p, hp, rfl⟩ := List.mem_map.mp h
  exact lay_keylen st m k p hp
section
variable {P : Program} {w : World} {K : PySem.W.Frag} {mg : Str → Option Value} {base : Heap}
theorem StOk.at {st : List (List Int)} {m n : Nat} (h : StOk st m) (hn : n < st.length) : (st.getD n []).length = m := h.len _ (List.mem_of_getElem? (getL hn))
theorem steps_len (L : Ln) (hs : List (List Rat)) : (steps L hs).length = L.ls.length := by unfold steps; rw [List.length_map, List.length_range]
theorem steps_ok {L : Ln} {hs : List (List Rat)} (h8 : L.ls.length ≤ 8) (h6 : hs.length ≤ 6) : StOk (steps L hs) hs.length := by
  refine ⟨h6, by rw [steps_len]; exact h8, fun a ha => ?_⟩
  obtain ⟨n, _, rfl⟩ := List.mem_map.mp (show a ∈ (List.range L.ls.length).map (stepAt L hs) from ha)
  unfold stepAt
  rw [List.length_map]
/-! ### ways_of -/
abbrev tWays (K : PySem.W.Frag) (st : List (List Int)) (m : Nat) : Ty := tLst K ((waysL st m).map tDic)
abbrev spWaysOf (K : PySem.W.Frag) : Sp := spT (α := Ln × List (List Rat)) (fun x => [tLine K x.1, tTup K (x.2.map (tQs K))]) (fun x => (∀ t ∈ x.2, WhOk x.1 t) ∧ x.1.ls.length ≤ 8 ∧ x.2.length ≤ 6) (fun x => tTup K [tLst K ((steps x.1 x.2).map tRow), tWays K (steps x.1 x.2) x.2.length])
abbrev nWaysOf : List Str := ["line", "hums", "steps", "layers", "zeros", "ways", "back", "section", "behind", "table", "row", "sign"]
theorem sc_waysOf : FnScope nWaysOf ["line", "hums"] (defScope sWaysOf) := ⟨rfl, rfl, rfl, by decide +kernel, rfl, by decide +kernel, by decide +kernel⟩
theorem fn_waysOf (T : Txt K mg) : Fn P w K mg base "ways_of" 6 ["line", "hums"] [] (spWaysOf K) := by
  refine fn_of' (st := sWaysOf) T.d_ways_of (fun _ _ _ _ _ _ us h => match us, h with | [_, _], _ => rfl) sc_waysOf (fun _ => rfl) fun f cdv Ar outer s H E x pre hr S D hR _ => ?_
  obtain ⟨L, hs⟩ := x
  obtain ⟨hW, l8, h6⟩ : (∀ t ∈ hs, WhOk L t) ∧ L.ls.length ≤ 8 ∧ hs.length ≤ 6 := pre
  have nd := sc_waysOf.nd
  have ok := steps_ok (hs := hs) l8 h6
  have hlen := steps_len L hs
  generalize hst : steps L hs = st at ok hlen
  have hn8 := ok.n8
  show BTy _ _ _ _ [some (tLine K L), some (tTup K (hs.map (tQs K))), none, none, none, none, none, none, none, none, none, none] _ _
  refine bt_set (T := tLst K (st.map tRow)) 2 nd (et_eq (et_call (x := (L, hs)) (fn_steps T) hr ⟨hW, show L.ls.length ≤ 24 by omega, h6⟩ (at_cons (et_var 0) (at_one (et_var 1)))) (by rw [hst]; rfl)) ?_
  refine bt_set (T := tLst K ((lays st hs.length).map tDic)) 3 nd (et_call (x := (st, hs.length)) (fn_layers T) (hr.mono (by decide)) ok (at_cons (et_var 2) (at_one (et_eq (et_lenT T.f_len (et_var 1)) (by rw [List.length_map]))))) ?_
  refine bt_set (T := tRow (List.replicate hs.length 0)) 4 nd (et_le (et_tuple T.f_tuple (et_rep (n := hs.length) et_int (et_eq (et_lenT T.f_len (et_var 1)) (by rw [List.length_map])) (by omega))) le_tRow) ?_
  have lat : ∀ {k}, k ≤ st.length → (lays st hs.length)[k]? = some (lay st hs.length k) := fun {k} h => by
    unfold lays
    rw [List.getElem?_map, List.getElem?_range (by omega)]
    rfl
  have W0 : Wt st hs.length 0 = tab (lay st hs.length st.length) (fun r => .int (if r = List.replicate hs.length 0 then 1 else 0)) := rfl
  have hlay : ∀ k, k ≤ st.length → (lay st hs.length k).length ≤ 256 := fun k hk => by
    have h1 := lay_len st hs.length k
    have h2 : 2 ^ k ≤ 2 ^ 8 := Nat.pow_le_pow_right (by decide) (by omega)
    omega
  refine bt_newL1 5 nd (et_eq (et_dcD (d := lay st hs.length st.length) (f := fun r => .int (if r = List.replicate hs.length 0 then 1 else 0)) (x := "row") (k := 10) (Nat.lt_of_succ_lt (units1 hr)) ⟨nd, blkOk_by (own := [("row", 10)]) (N := nWaysOf) (sc := defScope sWaysOf) (by decide +kernel), rfl, rfl⟩ (et_ixL (k := st.length) (et_var 3) (et_eq (et_lenL T.f_len (et_var 2)) (by rw [List.length_map])) rfl (map_at (lat (Nat.le_refl _)))) (lay_nd _ _ _) (by have := hlay st.length (Nat.le_refl _); omega) (fun q hq s0 H0 C cl fp => et_var 10) (fun q hq s0 H0 C cl fp => ?_)) (congrArg tDic W0.symm)) fun pw => ?_
  · refine et_if (k := decide (q.1 = List.replicate hs.length 0)) (tt_eq (tt_eqD (units64 hr) dp_row dp_row (wD_shaped _) (wD_shaped _) (et_var 10) (et_var 4)) (eqv_w _ _)) (fun h => ?_) (fun h => ?_)
    · rw [if_pos (of_decide_eq_true h)]; exact et_int
    · rw [if_neg (of_decide_eq_false h)]; exact et_int
  refine bt_forR 6 st.length (fun j => [some (tLine K L), some (tTup K (hs.map (tQs K))), some (tLst K (st.map tRow)), some (tLst K ((lays st hs.length).map tDic)), some (tRow (List.replicate hs.length 0)), some (tV (.ref pw)), none, none, none, none, none, none]) (fun j => [(pw, oL (((List.range (j + 1)).map (Wt st hs.length)).map tDic))]) nd PassesOwn.never T.f_range (et_eq (et_lenL T.f_len (et_var 2)) (by rw [List.length_map])) (by omega) (.refl _) rfl (fun S1 H1 g j hj => ?_) ?_
  · have hk : st.length - 1 - j < st.length := by omega
    refine bt_set (T := tI ((st.length - 1 - j : Nat) : Int)) 7 nd (et_eq (et_sub (et_sub (et_lenL T.f_len (et_var 2)) et_int) (et_var 6)) (congrArg tI (show (((st.map tRow).length : Nat) : Int) - 1 - (j : Int) = ((st.length - 1 - j : Nat) : Int) by rw [List.length_map]; omega))) ?_
    refine bt_set (T := tDic (Wt st hs.length j)) 8 nd (et_ixO (m := j) 0 rfl (et_var 5) (et_var 6) rfl (map_at (by rw [List.getElem?_map, List.getElem?_range (by omega)]; rfl))) ?_
    refine bt_newD 9 nd fun pt => ?_
    have hT : ∀ d : Dt, tab (d.take 0) (fun r => V.int (cnt st hs.length (j + 1) r)) = [] := fun d => rfl
    refine bt_forD (d := lay st hs.length (st.length - 1 - j)) 10 (fun _ => [some (tLine K L), some (tTup K (hs.map (tQs K))), some (tLst K (st.map tRow)), some (tLst K ((lays st hs.length).map tDic)), some (tRow (List.replicate hs.length 0)), some (tV (.ref pw)), some (tI (j : Nat)), some (tI ((st.length - 1 - j : Nat) : Int)), some (tDic (Wt st hs.length j)), some (tV (.ref pt)), none, none]) (fun i => [(pt, oDi (tab ((lay st hs.length (st.length - 1 - j)).take i) fun r => .int (cnt st hs.length (j + 1) r))), (pw, oL (((List.range (j + 1)).map (Wt st hs.length)).map tDic))]) nd PassesOwn.never (et_ixL (et_var 3) (et_var 7) rfl (map_at (lat (by omega)))) (.refl _) rfl (fun S2 H2 g2 i q hq => ?_) ?_
    · have hqm := List.mem_of_getElem? hq
      have hqk : q.1 ∈ (lay st hs.length (st.length - 1 - j)).map (·.1) := List.mem_map.mpr ⟨q, hqm, rfl⟩
      have hql := lay_klen hqk
      have hal := ok.at hk
      refine bt_dput (v := .int (cnt st hs.length (j + 1) q.1)) 0 rfl (units1 hr) (et_var 9) (et_var 10) (et_sum (ns := (sgs (st.length - 1 - j)).map fun s => cnt st hs.length j (led q.1 (st.getD (st.length - 1 - j) []) s)) rfl T.f_sum (et_eq (et_lcT (x := "sign") (k := 11) ⟨nd, blkOk_by (own := [("sign", 11)]) (N := nWaysOf) (sc := defScope sWaysOf) (by decide +kernel), rfl, rfl⟩ (sgs (st.length - 1 - j)) tI (fun s => tI (cnt st hs.length j (led q.1 (st.getD (st.length - 1 - j) []) s))) (fun _ => true) (et_call (x := st.length - 1 - j) (fn_signsAt T) (hr.mono (by decide)) trivial (at_one (et_var 7))) (by have := sgs_len (st.length - 1 - j); omega) (fun y hy => ifs_nil) (fun y hy _ s0 H0 C cl fp => ?_)) (congrArg (tLst K) (map_map_ty (f := tI) (g := fun s => cnt st hs.length j (led q.1 (st.getD (st.length - 1 - j) []) s)) (sgs (st.length - 1 - j)))))) ?_ ?_
      · refine et_dget (d := Wt st hs.length j) (r := led q.1 (st.getD (st.length - 1 - j) []) y) (units1 hr) (et_var 8) (et_call (x := (q.1, st.getD (st.length - 1 - j) [], y)) (fn_led T) (hr.mono (by decide)) ⟨hql.trans hal.symm, show q.1.length ≤ 6 by omega, sgs_mem hy⟩ (at_cons (et_var 10) (at_cons (et_ixL (et_var 2) (et_var 7) rfl (map_at (getL hk))) (at_one (et_var 11))))) (valV_tab ?_)
        have := lay_step hqk hy
        rwa [show st.length - 1 - j + 1 = st.length - j by omega] at this
      · rw [tab_len, List.length_take]; have := hlay (st.length - 1 - j) (by omega); omega
      · refine bt_nil fun σ S H g e o => ⟨S, g, e.le (el_eq (el_eq (el_eq (el_eq (el_eq (el_eq (el_eq (el_eq (el_eq (el_eq (el_no (el_no el_nil)))))))))))), ?_⟩
        rw [← tab_snoc (lay_nd _ _ _) hq]
        exact o
    · rw [List.take_length]
      refine bt_frzD 9 rfl ?_
      refine bt_app (T := tDic (Wt st hs.length (j + 1))) 0 rfl (et_var 5) (et_eq (et_var 9) ?_) (by rw [List.length_map, List.length_map, List.length_range]; omega) ?_
      · unfold Wt
        rw [show st.length - (j + 1) = st.length - 1 - j by omega]
      · refine bt_nil fun σ S H g e o => ⟨S, g, e.le (el_eq (el_eq (el_eq (el_eq (el_eq (el_eq (el_no (el_no (el_no (el_no (el_no (el_no el_nil)))))))))))), ?_⟩
        rw [range_snoc, List.map_append]
        exact o
  · refine bt_frzL 5 rfl ?_
    refine bt_ret (et_eq (et_tup (at_cons (et_var 2) (at_one (et_revL (et_var 5))))) ?_) hR
    show _ = tTup K [tLst K ((steps L hs).map tRow), tWays K (steps L hs) hs.length]
    rw [hst, ← List.map_reverse]
    rfl
/-! ### count_ways -/
abbrev spCount (K : PySem.W.Frag) : Sp := spT (α := List (List Int) × Nat) (fun x => [tWays K x.1 x.2]) (fun _ => True) (fun x => tI (cnt x.1 x.2 x.1.length (List.replicate x.2 0)))
theorem sc_count : FnScope ["ways"] ["ways"] (defScope sCountWays) := ⟨rfl, rfl, rfl, by decide +kernel, rfl, by decide +kernel, by decide +kernel⟩
theorem fn_count (T : Txt K mg) : Fn P w K mg base "count_ways" 1 ["ways"] [] (spCount K) := by
  refine fn_of' (st := sCountWays) T.d_count_ways (fun _ _ _ _ _ _ us h => match us, h with | [_], _ => rfl) sc_count (fun _ => rfl) fun f cdv Ar outer s H E x pre hr S D hR _ => ?_
  obtain ⟨st, m⟩ := x
  show BTy _ _ _ _ [some (tWays K st m)] _ _
  have e : (Wt st m st.length).map (·.2) = [cnt st m st.length (List.replicate m 0)].map V.int := by
    unfold Wt
    rw [Nat.sub_self]
    rfl
  refine bt_ret (et_eq (et_sumVals T.f_sum (et_ixL (k := 0) (et_var 0) et_int rfl (map_at (waysL_at (Nat.zero_le _)))) e) ?_) hR
  simp
/-! ### pick_word -/
def pkS (st : List (List Int)) (m : Nat) (v : Int) : Nat → List Int × Int × List Int
  | 0 => (List.replicate m 0, v, [])
  | k + 1 =>
    let p := pkS st m v k
    let many := cnt st m (st.length - 1 - k) (led p.1 (st.getD k []) 1)
    if p.2.1 < many then (led p.1 (st.getD k []) 1, p.2.1, p.2.2 ++ [1]) else (led p.1 (st.getD k []) (-1), p.2.1 - many, p.2.2 ++ [-1])
def pick (st : List (List Int)) (m : Nat) (v : Int) : List Int := (pkS st m v st.length).2.2
theorem pkS_inv {st : List (List Int)} {m : Nat} {v : Int} (h0 : 0 ≤ v) (h1 : v < cnt st m st.length (List.replicate m 0)) : ∀ k, k ≤ st.length →
    (pkS st m v k).1 ∈ (lay st m k).map (·.1) ∧ 0 ≤ (pkS st m v k).2.1 ∧ (pkS st m v k).2.1 < cnt st m (st.length - k) (pkS st m v k).1 ∧ (pkS st m v k).2.2.length = k
  | 0, _ => ⟨by simp [pkS, lay], h0, h1, rfl⟩
  | k + 1, hk => by
    obtain ⟨a1, a2, a3, a4⟩ := pkS_inv h0 h1 k (by omega)
    have ej : st.length - k = (st.length - (k + 1)) + 1 := by omega
    have ek : st.length - 1 - (st.length - (k + 1)) = k := by omega
    have e1 : st.length - 1 - k = st.length - (k + 1) := by omega
    rw [ej, cnt, ek] at a3
    unfold pkS
    simp only [e1]
    have s1 : (1 : Int) ∈ sgs k := by unfold sgs; split <;> simp
    split
    · rename_i hlt
      exact ⟨lay_step a1 s1, a2, hlt, by simp [a4]⟩
    · rename_i hge
      unfold sgs at a3
      split at a3
      · simp only [List.map_cons, List.map_nil, List.sum_cons, List.sum_nil] at a3
        omega
      · rename_i hk0
        have s2 : (-1 : Int) ∈ sgs k := by unfold sgs; rw [if_neg hk0]; simp
        simp only [List.map_cons, List.map_nil, List.sum_cons, List.sum_nil] at a3
        refine ⟨lay_step a1 s2, by show 0 ≤ _ - _; omega, by show (pkS st m v k).2.1 - cnt st m (st.length - (k + 1)) (led (pkS st m v k).1 (st.getD k []) 1) < cnt st m (st.length - (k + 1)) (led (pkS st m v k).1 (st.getD k []) (-1)); omega, by simp [a4]⟩
abbrev spPick (K : PySem.W.Frag) : Sp := spT (α := List (List Int) × Nat × Int) (fun x => [tLst K (x.1.map tRow), tWays K x.1 x.2.1, tI x.2.2]) (fun x => StOk x.1 x.2.1 ∧ 1 ≤ x.1.length ∧ 0 ≤ x.2.2 ∧ x.2.2 < cnt x.1 x.2.1 x.1.length (List.replicate x.2.1 0)) (fun x => tW K (pick x.1 x.2.1 x.2.2))
abbrev nPick : List Str := ["steps", "ways", "number", "row", "signs", "section", "adds", "straight", "many", "entry"]
theorem sc_pick : FnScope nPick ["steps", "ways", "number"] (defScope sPickWord) := ⟨rfl, rfl, rfl, by decide +kernel, rfl, by decide +kernel, by decide +kernel⟩
theorem zeros_of {m : Nat} {l : List Int} (h : l.length = m) : ((l.filter fun _ => true).map fun _ => tI 0) = (List.replicate m (0 : Int)).map tI := by
  rw [filt_true, List.map_replicate, ← h]
  exact List.map_const' ..
theorem fn_pick (T : Txt K mg) : Fn P w K mg base "pick_word" 2 ["steps", "ways", "number"] [] (spPick K) := by
  refine fn_of' (st := sPickWord) T.d_pick_word (fun _ _ _ _ _ _ us h => match us, h with | [_, _, _], _ => rfl) sc_pick (fun _ => rfl) fun f cdv Ar outer s H E x pre hr S D hR _ => ?_
  obtain ⟨st, m, v⟩ := x
  obtain ⟨ok, hn1, h0, h1⟩ : StOk st m ∧ 1 ≤ st.length ∧ 0 ≤ v ∧ v < cnt st m st.length (List.replicate m 0) := pre
  have m6 := ok.m6
  have n8 := ok.n8
  have nd := sc_pick.nd
  have inv := pkS_inv h0 h1
  show BTy _ _ _ _ [some (tLst K (st.map tRow)), some (tWays K st m), some (tI v), none, none, none, none, none, none, none] _ _
  refine bt_set (T := tRow (List.replicate m 0)) 3 nd (et_le (et_tuple T.f_tuple (et_eq (et_lcT (x := "entry") (k := 9) ⟨nd, blkOk_by (own := [("entry", 9)]) (N := nPick) (sc := defScope sPickWord) (by decide +kernel), rfl, rfl⟩ (st.getD 0 []) tI (fun _ => tI 0) (fun _ => true) (et_le (et_ixL (k := 0) (et_var 0) et_int rfl (map_at (getL (by omega)))) tRow_tup) (by rw [ok.at (by omega)]; omega) (fun y _ => ifs_nil) (fun y _ _ s0 H0 C cl fp => et_int)) (congrArg (tLst K) (zeros_of (ok.at (by omega)))))) le_tRow) ?_
  refine bt_newL 4 nd fun ps => ?_
  refine bt_forE (ts := st.map tRow) 5 6 (fun k => [some (tLst K (st.map tRow)), some (tWays K st m), some (tI (pkS st m v k).2.1), some (tRow (pkS st m v k).1), some (tV (.ref ps)), none, none, none, none, none]) (fun k => [(ps, oL ((pkS st m v k).2.2.map tI))]) nd PassesOwn.never (pi_enum rfl T.f_enumerate pa_w) (enTy_L (et_var 0)) (.refl _) rfl (fun S1 H1 g k U hU => ?_) ?_
  · obtain ⟨a, ea, rfl⟩ := at_map hU
    have hk : k < st.length := (List.getElem?_eq_some_iff.mp ea).1
    have ead : st.getD k [] = a := Option.some.inj ((getL hk).symm.trans ea)
    have hal := ok.len a (List.mem_of_getElem? ea)
    obtain ⟨a1, a2, a3, a4⟩ := inv k (by omega)
    have hrl := lay_klen a1
    have s1 : (1 : Int) ∈ sgs k := by unfold sgs; split <;> simp
    have hin := lay_step a1 s1
    have e1 : st.length - (k + 1) = st.length - 1 - k := by omega
    generalize hp : pkS st m v k = p at a1 a2 a3 a4 hrl hin
    obtain ⟨r, u, sg⟩ := p
    simp only at a1 a2 a3 a4 hrl hin
    have hpS : pkS st m v (k + 1) = if u < cnt st m (st.length - 1 - k) (led r a 1) then (led r a 1, u, sg ++ [1]) else (led r a (-1), u - cnt st m (st.length - 1 - k) (led r a 1), sg ++ [-1]) := by
      rw [pkS]
      simp only [hp, ead]
    refine bt_set (T := tRow (led r a 1)) 7 nd (et_call (x := (r, a, 1)) (fn_led T) (hr.mono (by decide)) ⟨show r.length = a.length by omega, show r.length ≤ 6 by omega, .inl rfl⟩ (at_cons (et_var 3) (at_cons (et_var 6) (at_one et_int)))) ?_
    refine bt_set (T := tI (cnt st m (st.length - 1 - k) (led r a 1))) 8 nd (et_dget (d := Wt st m (st.length - (k + 1))) (r := led r a 1) (units1 hr) (et_ixL (k := k + 1) (et_var 1) (et_add (et_var 5) et_int) (by omega) (map_at (waysL_at (by omega)))) (et_var 7) ?_) ?_
    · rw [e1]
      refine valV_tab ?_
      rw [show st.length - (st.length - 1 - k) = k + 1 by omega, ← ead]
      exact hin
    refine bt_if (k := decide (u < cnt st m (st.length - 1 - k) (led r a 1))) (tt_lt (et_var 2) (et_var 8)) (fun h => ?_) (fun h => ?_)
    · have h := of_decide_eq_true h
      rw [if_pos h] at hpS
      refine bt_app (T := tI 1) 0 rfl (et_var 4) et_int (by rw [List.length_map]; show sg.length ≤ 99999; omega) ?_
      refine bt_set 3 nd (et_var 7) ?_
      refine bt_on ?_
      refine bt_nil fun σ S H g e o => ⟨S, g, ?_, ?_⟩
      · rw [hpS]
        exact e.le (el_eq (el_eq (el_eq (el_eq (el_eq (el_no (el_no (el_no (el_no (el_no el_nil))))))))))
      · rw [hpS, List.map_append]
        exact o
    · have h := of_decide_eq_false h
      rw [if_neg h] at hpS
      refine bt_aug 2 nd ip_sub rfl (et_var 8) ?_
      refine bt_app (T := tI (-1)) 0 rfl (et_var 4) (et_eq (et_neg et_int) rfl) (by rw [List.length_map]; show sg.length ≤ 99999; omega) ?_
      refine bt_set (T := tRow (led r a (-1))) 3 nd (et_call (x := (r, a, -1)) (fn_led T) (hr.mono (by decide)) ⟨show r.length = a.length by omega, show r.length ≤ 6 by omega, .inr rfl⟩ (at_cons (et_var 3) (at_cons (et_var 6) (at_one (et_eq (et_neg et_int) rfl))))) ?_
      refine bt_on ?_
      refine bt_nil fun σ S H g e o => ⟨S, g, ?_, ?_⟩
      · rw [hpS]
        exact e.le (el_eq (el_eq (el_eq (el_eq (el_eq (el_no (el_no (el_no (el_no (el_no el_nil))))))))))
      · rw [hpS, List.map_append]
        exact o
  · rw [List.length_map]
    refine bt_frzL 4 rfl ?_
    exact bt_ret (et_tuple' T.f_tuple (et_var 4)) hR
end
end K79
set_option Elab.async false
set_option linter.all false
set_option maxRecDepth 100000
/-! KG: for loops in a generator def. -/
namespace PySem
open Sem (wp)
section
variable {M : Model} {A : Around} {R : GenEnd} {Y : Protocol} {n : Nat} {s₀ : Shared} {c : Code} {fs : List Frame} {s : Shared} {env : Env}
  {K : Flow → Sem Fin} {H : Value → Sem Fin} {gd : Bool → Bool} {lv : List Value → List Value}
theorem k79_seg_For {target iter : Expr} {body : List Stmt} {pos : Pos} (hs : ∀ x, foldedSetIterable iter env x = pure x)
    (h : wpAny M (A.over c fs) (eval iter env) (fun x s1 => wpAny M (A.over c fs) (pyIter x) (fun it s2 => ∀ (l kp : List Value) p,
      Seg M A R Y n s₀ (.forLoop target it body [] env) (M.den (.forLoop target it body [] env))
      (.ret (fun r => ((match r with | .ok f => (.pure f : Sem Flow) | .error e => .raise e).onRaise fun (x : Value) => do
        if (← field x 1) == Value.none then unsupported "frame.own-activation:exception-without-traceback"
        setFlight x env.frame).wrap K H gd lv) none (gd false) l c p kp :: fs) s2) (fun x s' => Seg M A R Y n s₀ c (H x) fs s') s1) (fun x s' => Seg M A R Y n s₀ c (H x) fs s') s) :
    Seg M A R Y n s₀ c ((exec (.For target iter body [] pos) env).wrap K H gd lv) fs s := by
  rw [exec_For, Sem.bind_eq_wrap', Sem.wrap_wrap]
  refine seg_wrap (wpAny_standAt ?_)
  rw [Sem.bind_eq_wrap', Sem.wrap_wrap]
  refine seg_wrap (wpAny_mono h (fun x s1 h1 => ?_) fun _ _ e => e)
  rw [Sem.bind_eq_wrap', Sem.wrap_wrap]
  refine seg_wrap (wpAny_of_eq (hs x) ?_)
  rw [Sem.bind_eq_wrap', Sem.wrap_wrap]
  refine seg_wrap (wpAny_standAt ?_)
  rw [Sem.bind_eq_wrap', Sem.wrap_wrap]
  refine seg_wrap (wpAny_holding (wpAny_mono h1 (fun it s2 h2 => ?_) fun _ _ e => e))
  exact seg_call fun p => h2 _ _ p
end
section
variable {prog : Program} {w : World} {A : Around} {R : GenEnd} {Y : Protocol} {n : Nat} {s₀ : Shared} {fs : List Frame} {s : Shared} {env : Env}
abbrev k79Nt (env : Env) (x : Value) : Sem Fin := (do noteFrame x env; theTreesLotGoes x : Sem Unit).wrap (fun _ => .raise x) .raise id id
theorem k79_seg_forLoop {target : Expr} {it : Value} {body : List Stmt}
    (h : wpAny (model prog w) (A.over (.forLoop target it body [] env) fs) (pyNext it) (fun r s1 => match r with
        | none => Seg (model prog w) A R Y n s₀ (.forLoop target it body [] env) (.pure (.again (.block [] env))) fs s1
        | some v => wpAny (model prog w) (A.over (.forLoop target it body [] env) fs) (letOwnedTupleGo target it v) (fun _ s2 => wpAny (model prog w) (A.over (.forLoop target it body [] env) fs) (assign target env v) (fun _ s3 =>
            Seg (model prog w) A R Y n s₀ (.forLoop target it body [] env) ((execs body env).wrap (fun f => match f with
            | .next | .cont => .pure (.again (.forLoop target it body [] env))
            | .brk => .pure (.done .next)
            | .ret v => .pure (.done (.ret v))) (k79Nt env) id id) fs s3)
            (fun x s' => Seg (model prog w) A R Y n s₀ (.forLoop target it body [] env) (k79Nt env x) fs s') s2)
            (fun x s' => Seg (model prog w) A R Y n s₀ (.forLoop target it body [] env) (k79Nt env x) fs s') s1)
      (fun x s' => Seg (model prog w) A R Y n s₀ (.forLoop target it body [] env) (k79Nt env x) fs s') s) :
    Seg (model prog w) A R Y n s₀ (.forLoop target it body [] env) ((model prog w).den (.forLoop target it body [] env)) fs s := by
  have ex : ∀ x s', Seg (model prog w) A R Y n s₀ (.forLoop target it body [] env) (k79Nt env x) fs s' → Seg (model prog w) A R Y n s₀ (.forLoop target it body [] env) ((do noteFrame x env; theTreesLotGoes x : Sem Unit).bind fun _ => .raise x) fs s' := fun x s' hx => by
    rw [Sem.bind_eq_wrap]
    exact hx
  show Seg _ A R Y n s₀ _ ((forTurn target it body [] env).onRaise (fun x => do noteFrame x env; theTreesLotGoes x)) fs s
  unfold forTurn
  rw [Sem.onRaise_eq_wrap, Sem.bind_eq_wrap', Sem.wrap_wrap]
  refine seg_wrap (wpAny_standAt ?_)
  rw [Sem.bind_eq_wrap', Sem.wrap_wrap]
  refine seg_wrap (wpAny_onRaise (wpAny_mono h (fun r s1 h1 => ?_) fun x s' hx => wpAny_standAt (ex x s' hx)))
  cases r with
  | none => exact h1
  | some v =>
    show Seg _ A R Y n s₀ _ (Sem.wrap _ _ _ _ (letOwnedTupleGo target it v >>= _)) fs s1
    rw [Sem.bind_eq_wrap', Sem.wrap_wrap]
    refine seg_wrap (wpAny_mono h1 (fun _ s2 h2 => ?_) fun x s' hx => ex x s' hx)
    rw [Sem.bind_eq_wrap', Sem.wrap_wrap]
    refine seg_wrap (wpAny_mono h2 (fun _ s3 h3 => ?_) fun x s' hx => ex x s' hx)
    rw [Sem.bind_eq_wrap', Sem.wrap_wrap]
    rw [Sem.wrap_congr (execs body env) _ _ (K' := fun f => match f with
            | .next | .cont => .pure (.again (.forLoop target it body [] env))
            | .brk => .pure (.done .next)
            | .ret v => .pure (.done (.ret v))) (H' := k79Nt env)
        (fun f => by cases f <;> rfl)
        (fun e => by first | exact Sem.bind_eq_wrap _ _ | (show (do noteFrame e env; theTreesLotGoes e : Sem Unit).bind (fun _ => .raise e) = _; rw [Sem.bind_eq_wrap]))]
    exact h3
end
end PySem
namespace L2
open PySem PySem.Spec PyProof.Rows GenW
def tGFor (wi : TI) (g : TG) (tb : TGn) : TGn := fun D ys σ H => wi σ H fun J H1 => ∃ W : Nat → Nat → List V → St → Hp → Prop, (∃ m, W 0 m ys σ H1) ∧ ∀ i m ys σ H, W i m ys σ H →
  (J.stop i H ∧ D.nx ys σ H) ∨ (J.go i H ∧ ∃ N : List V → St → Hp → Prop, (∀ ys' σ' H', N ys' σ' H' → ∃ m', m' < m ∧ W (i + 1) m' ys' σ' H') ∧ ∀ x H', J.yld i H x H' → g x σ H' fun σ2 H2 => tb { D with nx := N, ct := N, bk := D.nx } ys σ2 H2)
theorem gs_for {X : Cx} {tg iter : Expr} {body : List Stmt} {pos : Pos} {wi : TI} {gt : TG} {tb : TGn} (hp : PassesOwn (model X.prog X.w) X.A X.env X.xe) (hcm : X.calm = true) (hi : PI X tg iter wi) (hgt : PG X tg gt) (hb : GSs X body tb) (hs : ∀ x, foldedSetIterable iter X.env x = pure x := by intro _; rfl) : GS X (.For tg iter body [] pos) (tGFor wi gt tb) := by
  refine ⟨fun A S ip R n ys s₀ c fs K J gd lv s σ H D g hn k hI ht => ?_⟩
  obtain ⟨acc, cc, rv, I⟩ := hI
  refine k79_seg_For hs ?_
  rw [g.over]
  have xx : ∀ x s', X.xe x s' → Seg (model X.prog X.w) A R (GY X S) n s₀ c (J x) fs s' := fun x s' hx => k.exc n s₀ x s' hx
  refine wpAny_mono (hi.run _ s σ H _ I ht) (fun v s1 h1 => wpAny_mono h1 (fun itv s2 h2 => ?_) xx) xx
  obtain ⟨it, fp, tn, Ji, H2, e, I2, T, st2, f2, W, ⟨m0, w0⟩, turn⟩ := h2
  subst e
  intro l kp p
  have hS : ∀ b ∈ fp, S ≠ b := fun b hb => (f2 b hb).2.2.2.2.2 (S, lstObj acc cc) (List.mem_append_right _ List.mem_cons_self)
  have stat : ∀ {H' : Hp} {a' : Array Value} {c' : Nat}, (∀ b ∈ fp, H' b = none) → ∀ b ∈ fp, FpOk X ((S, lstObj a' c') :: ip) H' b := fun hn b hb => by
    obtain ⟨_, q1, q2, q3, q4, q5⟩ := f2 b hb
    refine ⟨hn b hb, q1, q2, q3, q4, fun q hq => ?_⟩
    rcases List.mem_append.mp hq with z | z
    · exact q5 q (List.mem_append_left _ z)
    · rcases List.mem_cons.mp z with z | z
      · rw [z]; exact hS b hb
      · exact q5 q (List.mem_append_right _ (List.mem_cons_of_mem _ z))
  have gl := fun (kk : Result → Sem PySem.Fin) => gc_loop (k := kk) (c' := .forLoop tg (.ref it) body [] X.env) (l := l) (kp := kp) (p := p) g rfl rfl
  have loop : ∀ (m n : Nat) (ys : List V) (s₀ s : Shared) (i : Nat) (σ : St) (H : Hp) (acc : Array Value) (cc : Nat), n + ys.length = sizeLine → W i m ys σ H → Vals ys acc.toList → Inv X ((S, lstObj acc cc) :: ip) σ H s → tn i s.heap → (∀ b ∈ fp, H b = none) →
      Seg (model X.prog X.w) A R (GY X S) n s₀ (.forLoop tg (.ref it) body [] X.env) ((model X.prog X.w).den (.forLoop tg (.ref it) body [] X.env))
        (.ret (fun r => ((match r with | .ok f => (.pure f : Sem Flow) | .error e => .raise e).onRaise (cameBack X.env)).wrap K J gd lv) none (gd false) l c p kp :: fs) s := by
    intro m
    induction m using Nat.strongRecOn with
    | ind m ih =>
      intro n ys s₀ s i σ H acc cc hn w rv I st fr
      have ee : ∀ (n : Nat) (s₀ : Shared) (x : Value) (s' : Shared), X.xe x s' → Seg (model X.prog X.w) A R (GY X S) n s₀ (.forLoop tg (.ref it) body [] X.env) (k79Nt X.env x)
          (.ret (fun r => ((match r with | .ok f => (.pure f : Sem Flow) | .error e => .raise e).onRaise (cameBack X.env)).wrap K J gd lv) none (gd false) l c p kp :: fs) s' := fun n s₀ x s' hx => by
        refine seg_wrap ?_
        rw [(gl _).over]
        refine wpAny_bind (wpAny_mono (hp x s' hx) (fun _ s'' hcb => wpAny_theTreesLotGoes ?_) fun y s'' hcb => ?_)
        · exact seg_leaf (.error x) (seg_cameBack g k hcb)
        · exact seg_leaf (.error y) (seg_cameBack g k hcb)
      refine k79_seg_forLoop ?_
      rw [(gl _).over]
      rcases turn i m ys σ H w with ⟨stop, qn⟩ | ⟨go, N, hN, step⟩
      · refine wpAny_mono (T.done X rfl rfl rfl hcm i _ s σ H X.xe I (stat fr) st stop) (fun r s4 ⟨hr, I4⟩ => ?_) fun x s' hx => ee n s₀ x s' hx
        subst hr
        refine seg_again rfl ?_
        exact seg_leaf (.ok .next) (k.ok n ys s₀ s4 .next hn ⟨σ, H, ⟨acc, cc, rv, I4⟩, qn⟩)
      · refine wpAny_mono (T.item X rfl rfl rfl hcm i _ s σ H X.xe I (stat fr) st go) (fun r s4 ⟨u, hr, h4⟩ => ?_) fun x s' hx => ee n s₀ x s' hx
        subst hr
        refine wpAny_mono h4 (fun _ s5 ⟨x, H5, I5, r5, y5, st5, fr5⟩ => ?_) fun x s' hx => ee n s₀ x s' hx
        have I5' := I5.pinned (stat fr5) (T.obj _ _ st5)
        refine wpAny_mono (hgt.run _ s5 σ H5 x u _ I5' r5 (step x H5 y5)) (fun _ s6 ⟨σ6, H6, I6, q6⟩ => ?_) fun x s' hx => ee n s₀ x s' hx
        have gb : ∀ kk : Result → Sem PySem.Fin, GC X S (ip ++ pinsAt fp s5.heap) A (.forLoop tg (.ref it) body [] X.env) (.ret kk none (gd false) l c p kp :: fs) id := fun kk =>
          ⟨(gl kk).pn, fun q hq => by
            rcases List.mem_append.mp hq with z | z
            · exact (gl kk).ip q z
            · exact Ne.symm (hS q.1 (of_pinsAt z).1), (gl kk).apart, (gl kk).over, (gl kk).split, (gl kk).guard, (gl kk).gd⟩
        have un : ∀ {ys' : List V} {σ' : St} {H' : Hp} {s' : Shared}, GI X S (ip ++ pinsAt fp s5.heap) ys' σ' H' s' → ∃ acc' cc', Vals ys' acc'.toList ∧ Inv X ((S, lstObj acc' cc') :: ip) σ' H' s' ∧ tn (i + 1) s'.heap ∧ ∀ b ∈ fp, H' b = none := fun {ys' σ' H' s'} ⟨acc', cc', rv', I'⟩ => by
          have pin' : ∀ b ∈ fp, ∀ o, s5.heap.get? b = some o → s'.heap.get? b = some o ∧ H' b = none := fun b hb o e =>
            let z := I'.pin (b, o) (List.mem_append_right _ (List.mem_cons_of_mem _ (List.mem_append_right _ (mem_pinsAt hb e))))
            ⟨z.1, z.2.1⟩
          refine ⟨acc', cc', rv', Inv.unpinned (pins := (S, lstObj acc' cc') :: ip) (pl := pinsAt fp s5.heap) I', T.keep _ _ _ st5 fun b hb o e => (pin' b hb o e).1, fun b hb => ?_⟩
          obtain ⟨o, e, _⟩ := T.obj _ _ st5 b hb
          exact (pin' b hb o e).2
        refine hb.run A S (ip ++ pinsAt fp s5.heap) R n ys s₀ _ _ _ _ id id s6 σ6 H6 { D with nx := N, ct := N, bk := D.nx } (gb _) hn ⟨fun n' ys' s₀' s7 f hn' hs => ?_, fun n' s₀' x s7 hx => ee n' s₀' x s7 hx⟩ ⟨acc, cc, rv, I6⟩ q6
        cases f with
        | next =>
          obtain ⟨σ7, H7, I7, n7⟩ := hs
          obtain ⟨m', hm, w7⟩ := hN ys' σ7 H7 n7
          obtain ⟨acc', cc', rv', I', st', fr'⟩ := un I7
          exact seg_again rfl (ih m' hm n' ys' s₀' s7 (i + 1) σ7 H7 acc' cc' hn' w7 rv' I' st' fr')
        | cont =>
          obtain ⟨σ7, H7, I7, n7⟩ := hs
          obtain ⟨m', hm, w7⟩ := hN ys' σ7 H7 n7
          obtain ⟨acc', cc', rv', I', st', fr'⟩ := un I7
          exact seg_again rfl (ih m' hm n' ys' s₀' s7 (i + 1) σ7 H7 acc' cc' hn' w7 rv' I' st' fr')
        | brk =>
          obtain ⟨σ7, H7, I7, q7⟩ := hs
          obtain ⟨acc', cc', rv', I', _, _⟩ := un I7
          exact seg_leaf (.ok .next) (k.ok n' ys' s₀' s7 .next hn' ⟨σ7, H7, ⟨acc', cc', rv', I'⟩, q7⟩)
        | ret v =>
          obtain ⟨x7, σ7, H7, I7, r7, q7⟩ := hs
          obtain ⟨acc', cc', rv', I', _, _⟩ := un I7
          exact seg_leaf (.ok (.ret v)) (k.ok n' ys' s₀' s7 (.ret v) hn' ⟨x7, σ7, H7, ⟨acc', cc', rv', I'⟩, r7, q7⟩)
  exact loop m0 n ys s₀ s2 0 σ H2 acc cc hn w0 rv I2 st2 fun b hb => (f2 b hb).1
end L2
set_option Elab.async false
set_option linter.all false
set_option maxRecDepth 100000
/-! D15: hushed_words, listed; counts. -/
namespace K79
open PySem L2
open PyProof.Rows (envOfC)
theorem ety_use {X : Cx} {O : Owns} {Γ : Env} {e : Expr} {T : Ty} {σ : L2.St} {F S H : Hp} {Q : VK} (g : EnvOk Γ σ S) (o : OwnOk O F S H) (i : Same S H) (h : ETy X O Γ e T) (q : ∀ v S' H', Grow S H S' H' → T.p v S' → Q v H') : wE X e σ H Q := h σ F S H Q g o i q
theorem aty_use {X : Cx} {O : Owns} {Γ : Env} {es : List Expr} {ts : List Ty} {σ : L2.St} {F S H : Hp} {Q : List V → Hp → Prop} (g : EnvOk Γ σ S) (o : OwnOk O F S H) (i : Same S H) (h : ATy X O Γ es ts) (q : ∀ vs S' H', Grow S H S' H' → All2 ts vs S' → Q vs H') : wA X es σ H Q := h σ F S H Q g o i q
/-- how many -/
def tot (L : Ln) (hs : List (List Rat)) : Int := cnt (steps L hs) hs.length (steps L hs).length (List.replicate hs.length 0)
def hushL (L : Ln) (hs : List (List Rat)) : List (List Int) := (List.range (tot L hs).toNat).map fun v => pick (steps L hs) hs.length (v : Nat)
structure HuOk (L : Ln) (hs : List (List Rat)) : Prop where
  wh : ∀ t ∈ hs, WhOk L t
  l8 : L.ls.length ≤ 8
  sp : SpOk hs L.ls.length
  few : tot L hs ≤ 9999
theorem cnt_nonneg (st : List (List Int)) (m : Nat) : ∀ j r, 0 ≤ cnt st m j r
  | 0, r => by unfold cnt; split <;> decide
  | j + 1, r => by
    unfold cnt
    have h := cnt_nonneg st m j
    unfold sgs
    split
    · simp only [List.map_cons, List.map_nil, List.sum_cons, List.sum_nil]
      have := h (led r (st.getD (st.length - 1 - j) []) 1)
      omega
    · simp only [List.map_cons, List.map_nil, List.sum_cons, List.sum_nil]
      have h1 := h (led r (st.getD (st.length - 1 - j) []) 1)
      have h2 := h (led r (st.getD (st.length - 1 - j) []) (-1))
      omega
section
variable {P : Program} {w : World} {K : PySem.W.Frag} {mg : Str → Option Value} {base : Heap}
theorem HuOk.st {L : Ln} {hs : List (List Rat)} (h : HuOk L hs) : StOk (steps L hs) hs.length := steps_ok h.l8 h.sp.l6
def spHush (K : PySem.W.Frag) : SpG := fun vs H cont _ => ∃ (L : Ln) (hs : List (List Rat)) (S : Hp), Same S H ∧ All2 [tLine K L, tSpan K hs] vs S ∧ HuOk L hs ∧ ∀ out S' H', Grow S H S' H' → All2 ((hushL L hs).map (tW K)) out S' → cont out H'
abbrev nHush : List Str := ["line", "span", "steps", "ways", "number"]
theorem sc_hush : GScope nHush ["line", "span"] (defScope sHushedWords) := ⟨rfl, rfl, rfl, by decide +kernel, rfl, by decide +kernel, by decide +kernel⟩
theorem fn_hush (T : Txt K mg) : ∃ f fd, mg "hushed_words" = some (.ref f) ∧ PySem.W.keepIn K (.ref f) = true ∧ Binds K fd ["line", "span"] [] ∧ GFn P w K mg base 8 f fd ["line", "span"] (spHush K) := by
  obtain ⟨f, fd, hm, F⟩ := T.d_hushed_words
  refine ⟨f, fd, hm, F.kp, F.bindsN (fun _ _ _ _ _ _ us h => match us, h with | [_, _], _ => rfl), ?_⟩
  obtain ⟨oc, od, dV, kV, doc, pm, an, cdv, ct, osl, rfl, lk, hcd, _, _⟩ := F.ex
  refine gfn_of (N := nHush) lk hcd sc_hush (fun vs H Q E ⟨L, hs, S, _, h, _⟩ => h.len.symm) fun A outer s H vs Q E pn hr ⟨L, hs, S, i, hv, ok, q⟩ => ?_
  have nd := sc_hush.nd
  have okst := ok.st
  have hlen := steps_len L hs
  have n1 := ok.sp.n1
  refine ⟨_, gss_cons (gs_ps (ps_asg pe_w (pg_tup rfl (pgs_cons (pg_name (i := 2) nd rfl (Or.inl rfl)) (pgs_cons (pg_name (i := 3) nd rfl (Or.inl rfl)) pgs_nil rfl) rfl) rfl rfl) rfl rfl rfl)) (gss_cons (gs_for owns_gcx rfl (pi_range1 rfl T.f_range pa_w rfl) (pg_name (i := 4) nd rfl (Or.inl rfl)) (gss_cons (gs_yield pe_w) gss_nil)) gss_nil), ?_⟩
  have e0 : EnvOk [some (tLine K L), some (tSpan K hs), none, none, none] (L2.start nHush vs) S := env_start (N := nHush) hv (by show 2 ≤ 5; decide)
  refine ety_use (F := H) (T := tTup K [tLst K ((steps L hs).map tRow), tWays K (steps L hs) hs.length]) e0 .nil i ?_ ?_
  · exact et_call (x := (L, hs)) (fn_waysOf T) (hr.mono (by decide)) ⟨ok.wh, ok.l8, ok.sp.l6⟩ (at_cons (et_var 0) (at_one (et_call (x := (L, hs)) (fn_told T) (hr.mono (by decide)) ok.sp (at_cons (et_var 0) (at_one (et_var 1))))))
  rintro v S1 H1 g1 ⟨a, us, h1, h2, h3⟩
  obtain ⟨u, u2, rfl, hu, hu2⟩ := all2_2 h3
  refine ⟨a, _, h1, same_t g1.i h2, rfl, u, _, rfl, u2, _, rfl, rfl, ?_⟩
  have e1 : EnvOk [some (tLine K L), some (tSpan K hs), some (tLst K ((steps L hs).map tRow)), some (tWays K (steps L hs) hs.length), none] (((L2.start nHush vs).set 2 (some u)).set 3 (some u2)) S1 := ((e0.m g1.s).set 2 hu).set 3 hu2
  have h0 := cnt_nonneg (steps L hs) hs.length (steps L hs).length (List.replicate hs.length 0)
  have few : cnt (steps L hs) hs.length (steps L hs).length (List.replicate hs.length 0) ≤ 9999 := ok.few
  refine aty_use (F := H1) (ts := [tI (cnt (steps L hs) hs.length (steps L hs).length (List.replicate hs.length 0))]) e1 .nil g1.i ?_ ?_
  · exact at_one (et_call (x := (steps L hs, hs.length)) (fn_count T) (hr.mono (by decide)) trivial (at_one (et_var 3)))
  intro vs2 S2 H2 g2 t2
  obtain ⟨c, rfl, hc⟩ := all2_1 t2
  have hc : c = .int (cnt (steps L hs) hs.length (steps L hs).length (List.replicate hs.length 0)) := hc
  subst hc
  refine ⟨_, rfl, by omega, by omega, ?_⟩
  have e2 := e1.m g2.s
  refine ⟨fun i m ys σ H' => m = (tot L hs).toNat - i ∧ i ≤ (tot L hs).toNat ∧ ∃ S', Grow S2 H2 S' H' ∧ EnvOk [some (tLine K L), some (tSpan K hs), some (tLst K ((steps L hs).map tRow)), some (tWays K (steps L hs) hs.length), none] σ S' ∧ All2 (((List.range i).map fun v => pick (steps L hs) hs.length (v : Nat)).map (tW K)) ys S', ⟨(tot L hs).toNat, by simp, Nat.zero_le _, S2, .refl g2.i, e2, .nil⟩, ?_⟩
  rintro i m ys σ H' ⟨rfl, hi, S', g3, e3, a3⟩
  by_cases hlt : i < (tot L hs).toNat
  · refine .inr ⟨hlt, fun ys' σ' H'' => i + 1 ≤ (tot L hs).toNat ∧ ∃ S', Grow S2 H2 S' H'' ∧ EnvOk [some (tLine K L), some (tSpan K hs), some (tLst K ((steps L hs).map tRow)), some (tWays K (steps L hs) hs.length), none] σ' S' ∧ All2 (((List.range (i + 1)).map fun v => pick (steps L hs) hs.length (v : Nat)).map (tW K)) ys' S', fun ys' σ' H'' ⟨h1, h2⟩ => ⟨(tot L hs).toNat - (i + 1), by omega, rfl, h1, h2⟩, fun x H'' hy => ?_⟩
    obtain ⟨rfl, rfl⟩ := hy
    have hys : ys.length = i := by rw [← a3.len]; simp
    have e4 : EnvOk [some (tLine K L), some (tSpan K hs), some (tLst K ((steps L hs).map tRow)), some (tWays K (steps L hs) hs.length), some (tI (i : Nat))] (σ.set 4 (some (.int (0 + (i : Nat))))) S' := by
      rw [Int.zero_add]
      exact e3.set 4 (T := tI (i : Nat)) rfl
    have hlt' : ((i : Nat) : Int) < cnt (steps L hs) hs.length (steps L hs).length (List.replicate hs.length 0) := by
      have : tot L hs = cnt (steps L hs) hs.length (steps L hs).length (List.replicate hs.length 0) := rfl
      omega
    refine ⟨by rw [hys]; exact Nat.lt_of_lt_of_le (show i < 100000 by have := ok.few; omega) (by decide), ?_⟩
    refine ety_use (F := H'') (T := tW K (pick (steps L hs) hs.length (i : Nat))) e4 .nil g3.i ?_ ?_
    · exact et_call (x := (steps L hs, hs.length, ((i : Nat) : Int))) (fn_pick T) (hr.mono (by decide)) ⟨okst, by rw [hlen]; exact n1, Int.natCast_nonneg i, hlt'⟩ (at_cons (et_var 2) (at_cons (et_var 3) (at_one (et_var 4))))
    intro y S4 H4 g4 hy
    refine ⟨hlt, S4, g3.trans g4, ?_, ?_⟩
    · exact (e4.m g4.s).le (el_eq (el_eq (el_eq (el_eq (el_no el_nil)))))
    · rw [range_snoc, List.map_append]
      exact (a3.m g4.s).append (.cons hy .nil)
  · have e : i = (tot L hs).toNat := by omega
    subst e
    refine .inl ⟨Nat.le_refl _, ?_⟩
    exact q ys S' H' ((g1.trans g2).trans g3) a3
/-- list(hushed_words(line, span)) -/
theorem et_hushed {X : Cx} {O : Owns} {Γ : Env} {a b : Expr} {p1 p2 p3 p4 : Pos} {L : Ln} {hs : List (List Rat)} (T : Txt X.K X.mg) (hr : Room 12 X.A) (ok : HuOk L hs) (ha : ATy X O Γ [a, b] [tLine X.K L, tSpan X.K hs]) (hg : Gl X "hushed_words" := by rfl) (hgl : Gl X "list" := by rfl)
    (h1 : starEach (a :: b :: []) X.env = (false, eval a X.env) :: starEach (b :: []) X.env := by rfl) (hpl : (backTo p3 (starEach [b] X.env)).any (·.1) = false := by rfl) (hst : starEach [Expr.Call (.Name "hushed_words" p1) [a, b] [] p3] X.env = (false, eval (.Call (.Name "hushed_words" p1) [a, b] [] p3) X.env) :: starEach [] X.env := by rfl) :
    ETy X O Γ (.Call (.Name "list" p2) [.Call (.Name "hushed_words" p1) [a, b] [] p3] [] p4) (tLst X.K ((hushL L hs).map (tW X.K))) := fun σ F S H Q g oo i q => by
  obtain ⟨f, fd, hm, hk, hb, F1⟩ := fn_hush (P := X.prog) (w := X.w) (base := X.base) T
  refine of_pe (pe_listG (E := fun _ _ _ => False) (pgen_call F1 (hr.mono (by decide)) hg hm hk hb .nil pa_w (by decide) h1 hpl) (fun _ _ _ _ _ _ _ ⟨_, _, _, _, _, _, _, _, _, _, _, _, z⟩ => z.elim) (fun _ _ _ z => z.elim) (hr.mono (by decide)) hgl T.f_list (by decide +kernel) (by decide) (by decide) hst) (ha σ F S H _ g oo i fun vs S1 H1 g1 t1 => ?_)
  rw [List.append_nil]
  exact ⟨L, hs, S1, g1.i, t1, ok, fun out S2 H2 g2 a2 p hp => q (.ref p) (upd S2 p (.lst out)) _ ((g1.trans g2).trans (.new g2.i hp)) ⟨p, out, rfl, SqL.of upd_same, a2.m (same_upd (g2.i.free hp))⟩⟩
end
end K79
set_option Elab.async false
set_option linter.all false
set_option maxRecDepth 100000
/-! D16: counts, words by number, numbers of words. -/
namespace K79
open PySem L2
open PyProof.Rows (envOfC)
section
variable {P : Program} {w : World} {K : PySem.W.Frag} {mg : Str → Option Value} {base : Heap}
/-! ### count_hushed -/
structure HuB (L : Ln) (hs : List (List Rat)) : Prop where
  wh : ∀ t ∈ hs, WhOk L t
  l8 : L.ls.length ≤ 8
  sp : SpOk hs L.ls.length
theorem HuOk.b {L : Ln} {hs : List (List Rat)} (h : HuOk L hs) : HuB L hs := ⟨h.wh, h.l8, h.sp⟩
abbrev spCountHushed (K : PySem.W.Frag) : Sp := spT (α := Ln × List (List Rat)) (fun x => [tLine K x.1, tSpan K x.2]) (fun x => HuB x.1 x.2) (fun x => tI (tot x.1 x.2))
theorem sc_countH : FnScope ["line", "span"] ["line", "span"] (defScope sCountHushed) := ⟨rfl, rfl, rfl, by decide +kernel, rfl, by decide +kernel, by decide +kernel⟩
theorem fn_countH (T : Txt K mg) : Fn P w K mg base "count_hushed" 7 ["line", "span"] [] (spCountHushed K) := by
  refine fn_of' (st := sCountHushed) T.d_count_hushed (fun _ _ _ _ _ _ us h => match us, h with | [_, _], _ => rfl) sc_countH (fun _ => rfl) fun f cdv Ar outer s H E x pre hr S D hR _ => ?_
  obtain ⟨L, hs⟩ := x
  have ok : HuB L hs := pre
  show BTy _ _ _ _ [some (tLine K L), some (tSpan K hs)] _ _
  exact bt_ret (et_call (x := (steps L hs, hs.length)) (fn_count T) (hr.mono (by decide)) trivial (at_one (et_ixT (k := 1) (et_call (x := (L, hs)) (fn_waysOf T) hr ⟨ok.wh, ok.l8, ok.sp.l6⟩ (at_cons (et_var 0) (at_one (et_call (x := (L, hs)) (fn_told T) (hr.mono (by decide)) ok.sp (at_cons (et_var 0) (at_one (et_var 1))))))) et_int rfl rfl))) hR
/-! ### hushed_by_number -/
abbrev spByNumber (K : PySem.W.Frag) : Sp := spT (α := Ln × List (List Rat) × Int) (fun x => [tLine K x.1, tSpan K x.2.1, tI x.2.2]) (fun x => HuB x.1 x.2.1 ∧ 0 ≤ x.2.2 ∧ x.2.2 < tot x.1 x.2.1) (fun x => tW K (pick (steps x.1 x.2.1) x.2.1.length x.2.2))
theorem sc_byN : FnScope ["line", "span", "number", "steps", "ways"] ["line", "span", "number"] (defScope sHushedByNumber) := ⟨rfl, rfl, rfl, by decide +kernel, rfl, by decide +kernel, by decide +kernel⟩
theorem fn_byN (T : Txt K mg) : Fn P w K mg base "hushed_by_number" 7 ["line", "span", "number"] [] (spByNumber K) := by
  refine fn_of' (st := sHushedByNumber) T.d_hushed_by_number (fun _ _ _ _ _ _ us h => match us, h with | [_, _, _], _ => rfl) sc_byN (fun _ => rfl) fun f cdv Ar outer s H E x pre hr S D hR _ => ?_
  obtain ⟨L, hs, v⟩ := x
  obtain ⟨ok, h0, h1⟩ : HuB L hs ∧ 0 ≤ v ∧ v < tot L hs := pre
  have nd := sc_byN.nd
  have hlen := steps_len L hs
  have okst := steps_ok (hs := hs) ok.l8 ok.sp.l6
  have n1 := ok.sp.n1
  show BTy _ _ _ _ [some (tLine K L), some (tSpan K hs), some (tI v), none, none] _ _
  refine bt_un2 (T := tLst K ((steps L hs).map tRow)) (U := tWays K (steps L hs) hs.length) 3 4 nd (et_call (x := (L, hs)) (fn_waysOf T) hr ⟨ok.wh, ok.l8, ok.sp.l6⟩ (at_cons (et_var 0) (at_one (et_call (x := (L, hs)) (fn_told T) (hr.mono (by decide)) ok.sp (at_cons (et_var 0) (at_one (et_var 1))))))) ?_
  refine bt_no (tt_not (tt_val (et_call (x := (v, some 0, some (tot L hs - 1))) (fn_whole3 T) (hr.mono (by decide)) trivial (at_cons (et_var 2) (at_cons et_int (at_one (et_sub (et_call (x := (steps L hs, hs.length)) (fn_count T) (hr.mono (by decide)) trivial (at_one (et_var 4))) et_int))))))) (by simp [wholeB, loB, hiB]; omega) ?_
  exact bt_ret (et_call (x := (steps L hs, hs.length, v)) (fn_pick T) (hr.mono (by decide)) ⟨okst, by rw [hlen]; exact n1, h0, h1⟩ (at_cons (et_var 3) (at_cons (et_var 4) (at_one (et_var 2))))) hR
/-! ### hushed_number -/
def nuS (st : List (List Int)) (m : Nat) (s : List Int) : Nat → List Int × Int
  | 0 => (List.replicate m 0, 0)
  | k + 1 =>
    let p := nuS st m s k
    (led p.1 (st.getD k []) (s.getD k 0), if s.getD k 0 = -1 then p.2 + cnt st m (st.length - 1 - k) (led p.1 (st.getD k []) 1) else p.2)
def numW (st : List (List Int)) (m : Nat) (s : List Int) : Int := (nuS st m s st.length).2
theorem word_sgs {s : List Int} (h : Word s) {k : Nat} (hk : k < s.length) : s.getD k 0 ∈ sgs k := by
  have h1 := h.sg _ (getS_mem hk)
  unfold sgs
  split
  · rename_i z
    subst z
    have := h.hd
    rw [getD_at hk] at this
    rw [Option.some.inj this]
    simp
  · rcases h1 with e | e <;> rw [e] <;> simp
theorem nuS_lay {st : List (List Int)} {m : Nat} {s : List Int} (h : Word s) (hl : s.length = st.length) : ∀ k, k ≤ st.length → (nuS st m s k).1 ∈ (lay st m k).map (·.1)
  | 0, _ => by simp [nuS, lay]
  | k + 1, hk => lay_step (nuS_lay h hl k (by omega)) (word_sgs h (by omega))
abbrev spNumber (K : PySem.W.Frag) : Sp := spT (α := Ln × List (List Rat) × List Int) (fun x => [tLine K x.1, tSpan K x.2.1, tW K x.2.2]) (fun x => HuB x.1 x.2.1 ∧ Word x.2.2 ∧ x.2.2.length = x.1.ls.length ∧ ∀ h ∈ x.2.1, NzOk x.1.ls x.2.2 h ∧ noise x.1.ls x.2.2 h = 0) (fun x => tI (numW (steps x.1 x.2.1) x.2.1.length x.2.2))
abbrev nNumber : List Str := ["line", "span", "word", "hums", "signs", "found", "steps", "ways", "row", "number", "section", "adds"]
theorem sc_number : FnScope nNumber ["line", "span", "word"] (defScope sHushedNumber) := ⟨rfl, rfl, rfl, by decide +kernel, rfl, by decide +kernel, by decide +kernel⟩
theorem fn_number (T : Txt K mg) : Fn P w K mg base "hushed_number" 7 ["line", "span", "word"] [] (spNumber K) := by
  refine fn_of' (st := sHushedNumber) T.d_hushed_number (fun _ _ _ _ _ _ us h => match us, h with | [_, _, _], _ => rfl) sc_number (fun _ => rfl) fun f cdv Ar outer s H E x pre hr S D hR _ => ?_
  obtain ⟨L, hs, s'⟩ := x
  obtain ⟨ok, hw, hl, h0⟩ : HuB L hs ∧ Word s' ∧ s'.length = L.ls.length ∧ ∀ h ∈ hs, NzOk L.ls s' h ∧ noise L.ls s' h = 0 := pre
  have nd := sc_number.nd
  have hlen := steps_len L hs
  have okst := steps_ok (hs := hs) ok.l8 ok.sp.l6
  have l6 := ok.sp.l6
  have n8 := okst.n8
  show BTy _ _ _ _ [some (tLine K L), some (tSpan K hs), some (tW K s'), none, none, none, none, none, none, none, none, none] _ _
  refine bt_set 3 nd (et_call (x := (L, hs)) (fn_told T) (hr.mono (by decide)) ok.sp (at_cons (et_var 0) (at_one (et_var 1)))) ?_
  refine bt_set 4 nd (et_call (x := (L, s')) (fn_checkWord T) (hr.mono (by decide)) ⟨hw, hl⟩ (at_cons (et_var 0) (at_one (et_le (et_var 2) tW_S)))) ?_
  refine bt_if (tt_notN_ref tRefly_ins (et_var 1)) (fun _ => ?_) (fun h => by cases h)
  refine bt_set 5 nd (et_call (x := (L, s', hs)) (fn_heard T) hr ⟨hw, hl, ok.sp, h0⟩ (at_cons (et_var 0) (at_cons (et_le (et_var 4) tW_S) (at_one (et_var 1))))) ?_
  refine bt_no (tt_notN (et_var 5)) (by decide) ?_
  refine bt_on ?_
  refine bt_un2 (T := tLst K ((steps L hs).map tRow)) (U := tWays K (steps L hs) hs.length) 6 7 nd (et_call (x := (L, hs)) (fn_waysOf T) hr ⟨ok.wh, ok.l8, ok.sp.l6⟩ (at_cons (et_var 0) (at_one (et_var 3)))) ?_
  refine bt_set (T := tRow (List.replicate hs.length 0)) 8 nd (et_le (et_tuple T.f_tuple (et_rep (n := hs.length) et_int (et_eq (et_lenT T.f_len (et_var 3)) (by rw [List.length_map])) (by omega))) le_tRow) ?_
  refine bt_set 9 nd et_int ?_
  have inv := nuS_lay (m := hs.length) hw (hl.trans hlen.symm)
  refine bt_forE (ts := (steps L hs).map tRow) 10 11 (fun k => [some (tLine K L), some (tSpan K hs), some (tW K s'), some (tTup K (hs.map (tQs K))), some (tW K s'), some tNo, some (tLst K ((steps L hs).map tRow)), some (tWays K (steps L hs) hs.length), some (tRow (nuS (steps L hs) hs.length s' k).1), some (tI (nuS (steps L hs) hs.length s' k).2), none, none]) (fun _ => []) nd PassesOwn.never (pi_enum rfl T.f_enumerate pa_w) (enTy_L (et_var 6)) (.refl _) rfl (fun S1 H1 g k U hU => ?_) ?_
  · obtain ⟨a, ea, rfl⟩ := at_map hU
    have hk : k < (steps L hs).length := (List.getElem?_eq_some_iff.mp ea).1
    have ead : (steps L hs).getD k [] = a := Option.some.inj ((getL hk).symm.trans ea)
    have hal := okst.len a (List.mem_of_getElem? ea)
    have a1 := inv k (by omega)
    have hrl := lay_klen a1
    have s1 : (1 : Int) ∈ sgs k := by unfold sgs; split <;> simp
    have hin := lay_step a1 s1
    have hsk : s'[k]? = some (s'.getD k 0) := getD_at (by omega)
    have hsg := hw.sg _ (getS_mem (n := k) (by omega))
    have e1 : (steps L hs).length - (k + 1) = (steps L hs).length - 1 - k := by omega
    have hS : nuS (steps L hs) hs.length s' (k + 1) = (led (nuS (steps L hs) hs.length s' k).1 a (s'.getD k 0), if s'.getD k 0 = -1 then (nuS (steps L hs) hs.length s' k).2 + cnt (steps L hs) hs.length ((steps L hs).length - 1 - k) (led (nuS (steps L hs) hs.length s' k).1 a 1) else (nuS (steps L hs) hs.length s' k).2) := by
      rw [nuS]
      simp only [ead]
    generalize hp : nuS (steps L hs) hs.length s' k = p at hS a1 hrl hin
    obtain ⟨r, u⟩ := p
    simp only at hS hrl hin
    have fin : ∀ {D : Ends} {v : Int} {S0 H0 : Hp} {Γ : Env}, BTy (Ct P w K mg base nNumber "hushed_number" sHushedNumber f cdv Ar outer s H E) S0 H0 [] Γ [] D → True := fun _ => trivial
    refine bt_if (k := decide (s'.getD k 0 = -1)) (tt_eq' (et_ixT (et_var 4) (et_var 10) rfl (map_at hsk)) (et_eq (et_neg et_int) rfl)) (fun h => ?_) (fun h => ?_)
    · have h := of_decide_eq_true h
      refine bt_aug 9 nd ip_add rfl (et_dget (d := Wt (steps L hs) hs.length ((steps L hs).length - (k + 1))) (r := led r a 1) (v := .int (cnt (steps L hs) hs.length ((steps L hs).length - (k + 1)) (led r a 1))) (units1 hr) (et_ixL (k := k + 1) (et_var 7) (et_add (et_var 10) et_int) (by omega) (map_at (waysL_at (by omega)))) (et_call (x := (r, a, 1)) (fn_led T) (hr.mono (by decide)) ⟨show r.length = a.length by omega, show r.length ≤ 6 by omega, .inl rfl⟩ (at_cons (et_var 8) (at_cons (et_var 11) (at_one et_int)))) (valV_tab ?_)) ?_
      · rw [show (steps L hs).length - ((steps L hs).length - (k + 1)) = k + 1 by omega, ← ead]
        exact hin
      refine bt_on ?_
      refine bt_set (T := tRow (led r a (s'.getD k 0))) 8 nd (et_call (x := (r, a, s'.getD k 0)) (fn_led T) (hr.mono (by decide)) ⟨show r.length = a.length by omega, show r.length ≤ 6 by omega, hsg⟩ (at_cons (et_var 8) (at_cons (et_var 11) (at_one (et_ixT (et_var 4) (et_var 10) rfl (map_at hsk)))))) ?_
      refine bt_turn (fun _ _ h => h) ?_
      rw [hS, if_pos h, e1]
      exact el_eq (el_eq (el_eq (el_eq (el_eq (el_eq (el_eq (el_eq (el_eq (el_eq (el_no (el_no el_nil)))))))))))
    · have h := of_decide_eq_false h
      refine bt_on ?_
      refine bt_set (T := tRow (led r a (s'.getD k 0))) 8 nd (et_call (x := (r, a, s'.getD k 0)) (fn_led T) (hr.mono (by decide)) ⟨show r.length = a.length by omega, show r.length ≤ 6 by omega, hsg⟩ (at_cons (et_var 8) (at_cons (et_var 11) (at_one (et_ixT (et_var 4) (et_var 10) rfl (map_at hsk)))))) ?_
      refine bt_turn (fun _ _ h => h) ?_
      rw [hS, if_neg h]
      exact el_eq (el_eq (el_eq (el_eq (el_eq (el_eq (el_eq (el_eq (el_eq (el_eq (el_no (el_no el_nil)))))))))))
  · rw [List.length_map]
    exact bt_ret (et_var 9) hR
end
end K79
set_option Elab.async false
set_option linter.all false
set_option maxRecDepth 100000
/-! KN: dicts whose keys are pairs (a row of ints, an int). -/
namespace L2
open PySem PySem.Spec PyProof.Rows
abbrev NQ := List Int × Int
abbrev Nd := List (NQ × V)
def nk (q : NQ) : NestedKey := .tup [.tup (q.1.map .num), .num q.2]
theorem num_inj {r s : List Int} (h : r.map NestedKey.num = s.map NestedKey.num) : r = s := (List.map_inj_right fun _ _ e => NestedKey.num.inj e).mp h
theorem nk_inj {p q : NQ} (h : nk p = nk q) : p = q := by
  obtain ⟨r, s⟩ := p
  obtain ⟨r', s'⟩ := q
  unfold nk at h
  have h1 := NestedKey.tup.inj h
  have h2 := (List.cons.inj h1).1
  have h3 := (List.cons.inj (List.cons.inj h1).2).1
  have e1 := num_inj (NestedKey.tup.inj h2)
  have e2 := NestedKey.num.inj h3
  simp only at e1 e2
  rw [e1, e2]
/-- the key at b -/
def KH (H : Hp) (b : Addr) (q : NQ) : Prop := ∃ c, H b = some (.tup [.ref c, .int q.2]) ∧ H c = some (.tup (q.1.map V.int))
theorem KH.m {S H : Hp} (e : ∀ b o, S b = some o → H b = some o) {b : Addr} {q : NQ} (h : KH S b q) : KH H b q := let ⟨c, h1, h2⟩ := h; ⟨c, e _ _ h1, e _ _ h2⟩
abbrev PN (H : Hp) : Nd → List (NestedKey × Addr × Value) → Prop := Paired fun p x => x.1 = nk p.1 ∧ KH H x.2.1 p.1 ∧ RelV p.2 x.2.2
structure NdOk (P : Program) (w : World) (a : Addr) (H : Hp) (kvs : Nd) (o : Obj) : Prop where
  sys : (a == sysModules) = false
  ex : ∃ es ep xs, o.ExactDict ∧ o.data = .dict es ep ∧ es.toList = xs.map (entryOfKey (nestedKind P w)) ∧ (xs.map (·.1)).Nodup ∧ PN H kvs xs
  few : kvs.length ≤ sizeLine
theorem NdOk.m {P : Program} {w : World} {a : Addr} {S H : Hp} {kvs : Nd} {o : Obj} (e : ∀ b o, S b = some o → H b = some o) (h : NdOk P w a S kvs o) : NdOk P w a H kvs o :=
  ⟨h.sys, let ⟨es, ep, xs, h1, h2, h3, h4, h5⟩ := h.ex; ⟨es, ep, xs, h1, h2, h3, h4, Paired.mapP h5 fun _ _ z => ⟨z.1, z.2.1.m e, z.2.2⟩⟩, h.few⟩
def NX (a : Addr) (o : Obj) : HO := .ext fun h => h.get? a = some o
section
variable {X : Cx} {pins : List (Addr × Obj)} {σ : St} {H : Hp} {s : Shared} {a b : Addr} {q : NQ} {kvs : Nd} {o : Obj}
theorem all_ints {h : Heap} : ∀ {r : List Int} {its : List Value}, Vals (r.map V.int) its → NestedAll h (r.map .num) its
  | [], _, r => by cases r; exact .nil
  | i :: r, _, z => by
    cases z with
    | cons z1 z2 =>
      obtain ⟨t, rfl⟩ := z1
      exact .cons (.int i t) (all_ints z2)
theorem kh_is (I : Inv X pins σ H s) (h : KH H b q) : (nestedKind X.prog X.w).is s.heap (nk q) b := by
  obtain ⟨c, h1, h2⟩ := h
  obtain ⟨_, its, r1, o1, e1, e2, n1, e3⟩ := (show ObjOk X.prog X.w H s.heap b _ from I.hok b _ h1)
  obtain ⟨_, its2, r2, o2, f1, f2, n2, f3⟩ := (show ObjOk X.prog X.w H s.heap c _ from I.hok c _ h2)
  cases r1 with
  | cons z1 z2 =>
    cases z2 with
    | cons z2 z3 =>
      cases z3
      obtain rfl := (show _ = Value.ref c from z1)
      obtain ⟨t, rfl⟩ := z2
      refine ⟨.tup e1 e2 e3 ?_, ?_⟩
      · show NestedAll s.heap _ [Value.ref c, Value.int q.2 t]
        exact .cons (.tup f1 f2 f3 (by simpa using all_ints r2)) (.cons (.int q.2 t) .nil)
      · unfold nk
        have : ∀ l : List Int, NestedKey.depthAll (l.map .num) = 0 := fun l => by
          induction l with
          | nil => simp [NestedKey.depthAll]
          | cons x r ih => simp [NestedKey.depthAll, NestedKey.depth, ih]
        simp [NestedKey.depth, NestedKey.depthAll, this]
theorem nh_dict {S : Hp} (I : Inv X pins σ H s) (h : H a = some (NX a o)) (sub : ∀ b o, S b = some o → H b = some o) (ok : NdOk X.prog X.w a S kvs o) : s.heap.get? a = some o ∧ ∃ xs, PN S kvs xs ∧ s.heap.DictOfH (nestedKind X.prog X.w) a xs := by
  obtain ⟨ho, _⟩ := (show ObjOk X.prog X.w H s.heap a (NX a o) from I.hok a _ h)
  have ho : s.heap.get? a = some o := ho
  obtain ⟨es, ep, xs, h1, h2, h3, h4, h5⟩ := ok.ex
  refine ⟨ho, xs, h5, o, es, ep, ho, h1, h2, h3, fun x hx => ?_, h4⟩
  have all : ∀ {l : Nd} {m : List (NestedKey × Addr × Value)}, PN S l m → ∀ x ∈ m, (nestedKind X.prog X.w).is s.heap x.1 x.2.1 := by
    intro l m r
    induction r with
    | nil => intro x hx; cases hx
    | @cons p y ps ys hq t ih =>
      intro x hx
      rcases List.mem_cons.mp hx with e | hx
      · rw [e, hq.1]
        exact kh_is I (hq.2.1.m sub)
      · exact ih x hx
  exact all h5 x hx
theorem pn_val {kvs : Nd} {xs : List (NestedKey × Addr × Value)} (r : PN H kvs xs) (q : NQ) : RelO (valV kvs q) ((atKey xs (nk q)).map (·.2)) := by
  induction r with
  | nil => exact True.intro
  | @cons p x ps ys h t ih =>
    unfold valV atKey at ih ⊢
    rw [List.find?_cons, List.find?_cons]
    by_cases e : p.1 = q
    · have e2 : x.1 = nk q := by rw [h.1, e]
      rw [decide_eq_true e, decide_eq_true e2]
      exact h.2.2
    · have e2 : ¬ x.1 = nk q := fun z => e (nk_inj (h.1.symm.trans z))
      rw [decide_eq_false e, decide_eq_false e2]
      exact ih
theorem pn_repl {kvs : Nd} {xs : List (NestedKey × Addr × Value)} (r : PN H kvs xs) (q : NQ) {v : V} {u : Value} (rv : RelV v u) : PN H (kvs.map fun kv => if kv.1 = q then (kv.1, v) else kv) (xs.map (putAt (nk q) u)) := by
  induction r with
  | nil => exact .nil
  | @cons p x ps ys h t ih =>
    rw [List.map_cons, List.map_cons]
    refine .cons ?_ ih
    unfold putAt
    by_cases z : p.1 = q
    · have z2 : x.1 = nk q := by rw [h.1, z]
      rw [if_pos z, if_pos z2]
      exact ⟨h.1, h.2.1, rv⟩
    · have z2 : ¬ x.1 = nk q := fun y => z (nk_inj (h.1.symm.trans y))
      rw [if_neg z, if_neg z2]
      exact h
theorem pn_put {kvs : Nd} {xs : List (NestedKey × Addr × Value)} (r : PN H kvs xs) {q : NQ} {b : Addr} {v : V} {u : Value} (hb : KH H b q) (rv : RelV v u) : PN H (putK kvs q v) (storedH xs (nk q) b u) := by
  have e : (kvs.any fun kv => decide (kv.1 = q)) = (atKey xs (nk q)).isSome := by
    rw [valV_any, (pn_val r q).isSome_eq, Option.isSome_map]
  unfold putK storedH
  rw [e]
  by_cases z : (atKey xs (nk q)).isSome = true
  · rw [if_pos z, if_pos z]; exact pn_repl r q rv
  · rw [if_neg z, if_neg z]; exact Paired.snoc r ⟨rfl, hb, rv⟩
end
end L2
set_option Elab.async false
set_option linter.all false
set_option maxRecDepth 100000
/-! KN2: rules for dicts with pairs as keys. -/
namespace L2
open PySem PySem.Spec PyProof.Rows
section
variable {X : Cx} {o i e value : Expr} {pos pos' : Pos} {td ty tv : TE}
/-- d[y] -/
def tNGet (X : Cx) (td ty : TE) : TE := fun σ H Q => td σ H fun x H1 => ty σ H1 fun y H2 => ∃ a b o kvs q v, x = .ref a ∧ y = .ref b ∧ H2 a = some (NX a o) ∧ NdOk X.prog X.w a H2 kvs o ∧ KH H2 b q ∧ valV kvs q = some v ∧ Q v H2
theorem pe_nget (hu : X.A.units + 16 < cLine) (ho : PE X o td) (hi : PE X i ty) (hs : NoSl i) : PE X (.Subscript o i pos) (tNGet X td ty) := by
  refine ⟨fun pins s σ H Q I h => ?_⟩
  refine subD_of PySem.F.slot_dict_getitem.lookup hs (thn (ho.run pins s σ H _ I h) fun u s1 ⟨x, H1, I1, rx, q1⟩ => thn (hi.run pins s1 σ H1 _ I1 q1) fun iv s2 ⟨y, H2, I2, ry, a, b, ob, kvs, q, v, ex, ey, hN, ok, hK, hv, q2⟩ => ?_)
  subst ex ey
  obtain rfl : u = Value.ref a := rx
  obtain rfl : iv = Value.ref b := ry
  obtain ⟨_, xs, rel, dd⟩ := nh_dict I2 hN (fun _ _ e => e) ok
  obtain ⟨w', hw, rw'⟩ := RelO.some_of (v := v) (o := (atKey xs (nk q)).map (·.2)) (by rw [← hv]; exact pn_val rel q)
  obtain ⟨p, hp, hp2⟩ := Option.map_eq_some_iff.mp hw
  refine ⟨dd.typeIs, wpAny_getItem_heap (knd := nestedKind X.prog X.w) (show X.A.units + 1 + 8 < cLine by omega) (kh_is I2 hK) dd hp ?_⟩
  rw [hp2]
  exact ⟨v, H2, I2.tok _, rw', q2⟩
/-- y in d -/
def tNIn (X : Cx) (neg : Bool) (ty td : TE) : TE := fun σ H Q => ty σ H fun y H1 => td σ H1 fun x H2 => ∃ a b o kvs q, x = .ref a ∧ y = .ref b ∧ H2 a = some (NX a o) ∧ NdOk X.prog X.w a H2 kvs o ∧ KH H2 b q ∧ Q (.bl (if neg then !(valV kvs q).isSome else (valV kvs q).isSome)) H2
theorem pc_nin (hu : X.A.units + 16 < cLine) (hi : PE X i ty) (ho : PE X o td) : PC X .In i o (tNIn X false ty td) := by
  refine ⟨fun pins s σ H Q I h => ?_⟩
  refine thn (hi.run pins s σ H _ I h) fun iv s1 ⟨y, H1, I1, ry, q1⟩ => thn (ho.run pins s1 σ H1 _ I1 q1) fun u s2 ⟨x, H2, I2, rx, a, b, ob, kvs, q, ex, ey, hN, ok, hK, q2⟩ => ?_
  subst ex ey
  obtain rfl : u = Value.ref a := rx
  obtain rfl : iv = Value.ref b := ry
  obtain ⟨_, xs, rel, dd⟩ := nh_dict I2 hN (fun _ _ e => e) ok
  refine wpAny_in_heap (knd := nestedKind X.prog X.w) (show X.A.units + 1 + 8 < cLine by omega) (kh_is I2 hK) ok.sys dd ?_
  have z := (pn_val rel q).isSome_eq
  rw [Option.isSome_map] at z
  rw [← z]
  exact ⟨.bl (valV kvs q).isSome, H2, I2.tok _, rfl, q2⟩
theorem pc_nnotin (hu : X.A.units + 16 < cLine) (hi : PE X i ty) (ho : PE X o td) : PC X .NotIn i o (tNIn X true ty td) := by
  refine ⟨fun pins s σ H Q I h => ?_⟩
  refine thn (hi.run pins s σ H _ I h) fun iv s1 ⟨y, H1, I1, ry, q1⟩ => thn (ho.run pins s1 σ H1 _ I1 q1) fun u s2 ⟨x, H2, I2, rx, a, b, ob, kvs, q, ex, ey, hN, ok, hK, q2⟩ => ?_
  subst ex ey
  obtain rfl : u = Value.ref a := rx
  obtain rfl : iv = Value.ref b := ry
  obtain ⟨_, xs, rel, dd⟩ := nh_dict I2 hN (fun _ _ e => e) ok
  refine wpAny_notIn_heap (knd := nestedKind X.prog X.w) (show X.A.units + 1 + 8 < cLine by omega) (kh_is I2 hK) ok.sys dd ?_
  have z := (pn_val rel q).isSome_eq
  rw [Option.isSome_map] at z
  rw [← z]
  exact ⟨.bl (!(valV kvs q).isSome), H2, I2.tok _, rfl, q2⟩
theorem nx_ok {P : Program} {w : World} {H : Hp} {h : Heap} {a : Addr} {o : Obj} (e : h.get? a = some o) : ObjOk P w H h a (NX a o) := ⟨e, ⟨_, e⟩, fun _ _ q k => k _ q⟩
/-- d[y] = v -/
def sNPut (X : Cx) (td ty tv : TE) : TS := fun D σ H => tv σ H fun v H1 => td σ H1 fun x H2 => ty σ H2 fun y H3 => ∃ a b o kvs q S, x = .ref a ∧ y = .ref b ∧ H3 a = some (NX a o) ∧ (∀ b o, S b = some o → H3 b = some o) ∧ NdOk X.prog X.w a S kvs o ∧ KH S b q ∧ kvs.length < sizeLine ∧
  ∀ o', NdOk X.prog X.w a S (putK kvs q v) o' → D.nx σ (upd H3 a (NX a o'))
theorem ps_nput (hu : X.A.units + 16 < cLine) (ho : PE X o td) (hi : PE X i ty) (hv : PE X value tv) (hs : swapsWith value (some (.Subscript o i pos')) pos.line X.env = pure false) :
    PS X (.Assign [.Subscript o i pos'] value pos) (sNPut X td ty tv) := by
  refine ⟨fun pins s σ H D I h => ?_⟩
  refine wpAny_Assign_Subscript (thn (hv.run pins s σ H _ I h) fun r s1 ⟨v, H1, I1, rv, q1⟩ => thn (ho.run pins s1 σ H1 _ I1 q1) fun u s2 ⟨x, H2, I2, rx, q2⟩ => thn (hi.run pins s2 σ H2 _ I2 q2) fun iv s3 ⟨y, H3, I3, ry, a, b, ob, kvs, q, S, ex, ey, hN, sub, ok, hK, hl, q3⟩ => ?_) hs
  subst ex ey
  obtain rfl : u = Value.ref a := rx
  obtain rfl : iv = Value.ref b := ry
  obtain ⟨_, xs, rel, dd⟩ := nh_dict I3 hN sub ok
  have hz : xs.length ≤ sizeLine := by rw [← Paired.length rel]; exact ok.few
  refine wpAny_setItem_heap (knd := nestedKind X.prog X.w) (hsz := hz) (show X.A.units + 1 + 8 < cLine by omega) (kh_is I3 (hK.m sub)) dd fun h' dd' hs' => ?_
  obtain ⟨o', es, ep, ho', h2, h3, h4, _, h5⟩ := dd'
  refine ⟨σ, upd H3 a (NX a o'), d_write I3 (by rw [hN]; exact True.intro) hs' ⟨o', ho'⟩ (nx_ok ho'), q3 o' ⟨ok.sys, ⟨es, ep, _, h2, h3, h4, h5, ?_⟩, ?_⟩⟩
  · exact pn_put rel hK rv
  · have := length_putK kvs q v
    omega
end
end L2
namespace K79
open PySem L2
open PyProof.Rows (envOfC)
/-- an owned dict with pairs as keys -/
def oN (P : Program) (w : World) (kvs : Nd) : Own := ⟨fun a S o => ∃ ob, o = NX a ob ∧ NdOk P w a S kvs ob, fun e ⟨ob, h1, h2⟩ => ⟨ob, h1, h2.m e⟩, fun ⟨_, h, _⟩ => nomatch h⟩
def tN (P : Program) (w : World) (kvs : Nd) : Ty := ⟨fun v S => ∃ a ob, v = .ref a ∧ S a = some (NX a ob) ∧ NdOk P w a S kvs ob, fun e ⟨a, ob, h1, h2, h3⟩ => ⟨a, ob, h1, e _ _ h2, h3.m e⟩⟩
def tKey (q : NQ) : Ty := ⟨fun v S => ∃ b, v = .ref b ∧ KH S b q, fun e ⟨b, h1, h2⟩ => ⟨b, h1, h2.m e⟩⟩
theorem le_tKey {r : List Int} {s : Int} : (tTupH [tRow r, tI s]).le (tKey (r, s)) := fun v S ⟨a, vs, h1, h2, h3⟩ => by
  obtain ⟨x, y, rfl, ⟨c, e1, e2⟩, e3⟩ := all2_2 h3
  have e3 : y = .int s := e3
  subst e1 e3
  exact ⟨a, h1, c, h2, e2⟩
section
variable {X : Cx} {S0 H0 : Hp} {O : Owns} {Γ : Env} {D : Ends} {e a b o : Expr} {rest : List Stmt} {T : Ty} {pos p2 : Pos} {x : Str} {i : Nat} {p : Addr} {kvs : Nd} {q : NQ} {v : V}
theorem units16 {k : Nat} {A : Around} (r : Room k A) : A.units + 16 < cLine := by have := r.un; omega
theorem et_nget {n : Int} (hu : X.A.units + 16 < cLine) (ho : ETy X O Γ o (tN X.prog X.w kvs)) (hi : ETy X O Γ a (tKey q)) (hv : valV kvs q = some (.int n)) (hs : NoSl a := by exact fun _ _ => rfl) : ETy X O Γ (.Subscript o a pos) (tI n) := fun σ F S H Q g oo i1 k =>
  of_pe (pe_nget hu pe_w pe_w hs) (ho σ F S H _ g oo i1 fun u S1 H1 g1 ⟨c, ob, e1, e2, e3⟩ => hi σ F S1 H1 _ (g.m g1.s) (oo.grow g1) g1.i fun y S2 H2 g2 ⟨d, e4, e5⟩ => by
    subst e1 e4
    exact ⟨c, d, ob, kvs, q, .int n, rfl, rfl, (g2.s.trans g2.i) _ _ e2, e3.m (g2.s.trans g2.i), e5.m g2.i, hv, k _ S2 H2 (g1.trans g2) rfl⟩)
theorem tt_nin (hu : X.A.units + 16 < cLine) (hi : ETy X O Γ a (tKey q)) (ho : ETy X O Γ o (tN X.prog X.w kvs)) (hm : behindInMarks .In o = false := by rfl) : TTy X O Γ (.Compare a [.In] [o] pos) (valV kvs q).isSome := fun σ F S H Q g oo i1 k =>
  of_pt (pt_cmp (pc_nin hu pe_w pe_w) hm) (hi σ F S H _ g oo i1 fun y S1 H1 g1 ⟨d, e4, e5⟩ => ho σ F S1 H1 _ (g.m g1.s) (oo.grow g1) g1.i fun u S2 H2 g2 ⟨c, ob, e1, e2, e3⟩ => by
    subst e1 e4
    exact ⟨c, d, ob, kvs, q, rfl, rfl, g2.i _ _ e2, e3.m g2.i, e5.m (g2.s.trans g2.i), _, rfl, k S2 H2 (g1.trans g2)⟩)
theorem tt_nnotin (hu : X.A.units + 16 < cLine) (hi : ETy X O Γ a (tKey q)) (ho : ETy X O Γ o (tN X.prog X.w kvs)) (hm : behindInMarks .NotIn o = false := by rfl) : TTy X O Γ (.Compare a [.NotIn] [o] pos) (!(valV kvs q).isSome) := fun σ F S H Q g oo i1 k =>
  of_pt (pt_cmp (pc_nnotin hu pe_w pe_w) hm) (hi σ F S H _ g oo i1 fun y S1 H1 g1 ⟨d, e4, e5⟩ => ho σ F S1 H1 _ (g.m g1.s) (oo.grow g1) g1.i fun u S2 H2 g2 ⟨c, ob, e1, e2, e3⟩ => by
    subst e1 e4
    exact ⟨c, d, ob, kvs, q, rfl, rfl, g2.i _ _ e2, e3.m g2.i, e5.m (g2.s.trans g2.i), _, rfl, k S2 H2 (g1.trans g2)⟩)
/-- {} is to have pairs as keys -/
theorem bt_toN (hr : BTy X S0 H0 ((p, oN X.prog X.w []) :: O) Γ rest D) : BTy X S0 H0 ((p, oDi []) :: O) Γ rest D := fun σ S H g g1 oo pins s I => by
  obtain ⟨hF, hS, u, h3, h4⟩ := oo.at_ 0 _ _ rfl
  have h4 : u = .dT [] := h4
  subst h4
  obtain ⟨z, y, xs, r, ob, es, ep, h1, h2, h3', h4', h5⟩ := (show ObjOk X.prog X.w H s.heap p (.dT []) from I.hok p _ h3)
  cases r
  have ok : NdOk X.prog X.w p S [] ob := ⟨y, ⟨es, ep, [], h2, h3', h4', List.nodup_nil, .nil⟩, Nat.zero_le _⟩
  have I1 : L2.Inv X pins σ (L2.upd H p (NX p ob)) s := I.write (x := p) (e := p) (t' := s.toks) (h' := s.heap) (by rw [h3]; exact True.intro) (.inl rfl) (fun b v _ q => q) ⟨ob, h1⟩ (nx_ok h1)
  exact hr σ S _ (g.store hF hS) g1 (oo.upd (k := 0) rfl (w' := oN X.prog X.w []) ⟨ob, rfl, ok⟩) pins s I1
theorem bt_nput (j : Nat) (hk : O[j]? = some (p, oN X.prog X.w kvs)) (hu : X.A.units + 16 < cLine) (ho : ETy X O Γ o (tV (.ref p))) (hi : ETy X O Γ a (tKey q)) (he : ETy X O Γ e (tV v)) (hl : kvs.length ≤ 99999) (hr : BTy X S0 H0 (O.set j (p, oN X.prog X.w (putK kvs q v))) Γ rest D)
    (hs2 : swapsWith e (some (.Subscript o a p2)) pos.line X.env = pure false := by rfl) : BTy X S0 H0 O Γ (.Assign [.Subscript o a p2] e pos :: rest) D := fun σ S H g g1 oo =>
  of_pss (pss_cons (ps_nput hu pe_w pe_w pe_w hs2) pss_w) (he σ H0 S H _ g1 oo g.i fun w S1 H1 g2 hw => ho σ H0 S1 H1 _ (g1.m g2.s) (oo.grow g2) g2.i fun u S2 H2 g3 hu => hi σ H0 S2 H2 _ ((g1.m g2.s).m g3.s) ((oo.grow g2).grow g3) g3.i fun y S3 H3 g4 ⟨b, hb, hbS⟩ => by
    have hw : w = v := hw
    have hu : u = .ref p := hu
    subst hw hu hb
    have o3 := ((oo.grow g2).grow g3).grow g4
    obtain ⟨hF, hS, u, h5, ob, h6, h7⟩ := o3.at_ j _ _ hk
    subst h6
    have gg := ((g.trans g2).trans g3).trans g4
    exact ⟨p, b, ob, kvs, q, S3, rfl, rfl, h5, gg.i, h7, hbS, Nat.lt_of_le_of_lt hl (by decide), fun o' ok' => hr σ S3 _ (gg.store hF hS) (((g1.m g2.s).m g3.s).m g4.s) (o3.upd hk ⟨o', rfl, ok'⟩)⟩)
end
end K79
set_option Elab.async false
set_option linter.all false
set_option maxRecDepth 100000
/-! KN3: displays of such dicts; frozen. -/
namespace L2
open PySem PySem.Spec PyProof.Rows
def tNDsp2 (X : Cx) (t1 u1 t2 u2 : TE) : TE := fun σ H Q => ∀ p, H p = none → t1 σ (upd H p (.dT [])) fun y1 H1 => u1 σ H1 fun z1 H2 => t2 σ H2 fun y2 H3 => u2 σ H3 fun z2 H4 =>
  ∃ (S : Hp) (b1 : Addr) (q1 : NQ) (b2 : Addr) (q2 : NQ), y1 = .ref b1 ∧ y2 = .ref b2 ∧ (∀ b o, S b = some o → H4 b = some o) ∧ KH S b1 q1 ∧ KH S b2 q2 ∧ H4 p = some (.dT []) ∧ ∀ o', NdOk X.prog X.w p S (putK (putK [] q1 z1) q2 z2) o' → Q (.ref p) (upd H4 p (NX p o'))
theorem pe_ndsp2 {X : Cx} {k1 v1 k2 v2 : Expr} {pos : Pos} {t1 u1 t2 u2 : TE} (hu : X.A.units + 16 < cLine) (h1 : PE X k1 t1) (h2 : PE X v1 u1) (h3 : PE X k2 t2) (h4 : PE X v2 u2) : PE X (.Dict [some k1, some k2] [v1, v2] pos) (tNDsp2 X t1 u1 t2 u2) := by
  refine ⟨fun pins s σ H Q I q => ?_⟩
  have hn := I.hok.fresh (Nat.le_refl s.heap.objs.size)
  have I1 := I.laid (a := s.heap.objs.size) (o := .dT []) (h' := s.heap.push { cls := .type "dict", data := .dict #[] }) (t' := s.toks) (fun _ _ q => Heap.get?_push_of_some _ q) (Nat.le_refl _) (dt_empty s.heap I.big)
  refine PySem.k79_disp_heap (knd := nestedKind X.prog X.w) (show X.A.units + 8 < cLine by omega) rfl rfl (by simp) (by show 2 ≤ 15; decide) ?_
  refine pairTrees_cons_walk (thn (h1.run pins _ σ _ _ I1 (q _ hn)) fun a1 s1 ⟨y1, H1, I1, ry1, q1⟩ => thn (h2.run pins s1 σ H1 _ I1 q1) fun c1 s2 ⟨z1, H2, I2, rz1, q2⟩ => pairTrees_cons_walk (thn (h3.run pins s2 σ H2 _ I2 q2) fun a2 s3 ⟨y2, H3, I3, ry2, q3⟩ => thn (h4.run pins s3 σ H3 _ I3 q3) fun c2 s4 ⟨z2, H4, I4, rz2, S, b1, p1, b2, p2, e1, e2, sub, hK1, hK2, hp, q4⟩ => pairTrees_nil_walk ?_))
  subst e1 e2
  obtain rfl : a1 = Value.ref b1 := ry1
  obtain rfl : a2 = Value.ref b2 := ry2
  obtain ⟨z0, hd, xs, rel, ob, es, ep, g1, g2, g3, g4, _, g5⟩ := dt_of I4.hok hp
  cases rel
  refine ⟨[(nk p1, b1, c1), (nk p2, b2, c2)], ⟨rfl, rfl, kh_is I4 (hK1.m sub), rfl, rfl, kh_is I4 (hK2.m sub), trivial⟩, ⟨ob, es, ep, g1, g2, g3, g4, (fun x hx => by cases hx), List.nodup_nil⟩, fun h' tk dd' hs => ?_⟩
  obtain ⟨o', es', ep', ho', f2, f3, f4, _, f5⟩ := dd'
  refine ⟨.ref s.heap.objs.size, upd H4 s.heap.objs.size (NX s.heap.objs.size o'), d_write I4 (by rw [hp]; exact True.intro) hs ⟨o', ho'⟩ (nx_ok ho'), rfl, q4 o' ⟨hd, ⟨es', ep', _, f2, f3, f4, f5, ?_⟩, ?_⟩⟩
  · exact pn_put (pn_put (kvs := []) (xs := []) .nil hK1 rz1) hK2 rz2
  · have e1 := length_putK ([] : Nd) p1 z1
    have e2 := length_putK (putK ([] : Nd) p1 z1) p2 z2
    have e3 : (2 : Nat) ≤ sizeLine := by decide
    rw [List.length_nil] at e1
    omega
end L2
namespace K79
open PySem L2
open PyProof.Rows (envOfC)
section
variable {X : Cx} {S0 H0 : Hp} {O : Owns} {Γ : Env} {D : Ends} {rest : List Stmt} {pos : Pos} {p : Addr} {kvs : Nd}
theorem bt_frzN (i : Nat) (hi : Γ[i]? = some (some (tV (.ref p)))) (hr : BTy X S0 H0 O (Γ.set i (some (tN X.prog X.w kvs))) rest D) : BTy X S0 H0 ((p, oN X.prog X.w kvs) :: O) Γ rest D := fun σ S H g g1 oo => by
  obtain ⟨hF, hS, u, h3, ob, h4, h5⟩ := oo.at_ 0 _ _ rfl
  subst h4
  have o2 := oo.frz (o := NX p ob)
  have g2 := g.freeze (o := NX p ob) hF hS
  rw [upd_self h3] at o2 g2
  exact hr σ _ H g2 ((g1.m (same_upd hS)).retype hi ⟨p, ob, rfl, upd_same, h5.m (same_upd hS)⟩) o2
theorem et_ndsp2 {k1 v1 k2 v2 : Expr} {q1 q2 : NQ} {i1 i2 : Int} (hu : X.A.units + 16 < cLine) (h1 : ETy X O Γ k1 (tKey q1)) (h2 : ETy X O Γ v1 (tI i1)) (h3 : ETy X O Γ k2 (tKey q2)) (h4 : ETy X O Γ v2 (tI i2)) : ETy X O Γ (.Dict [some k1, some k2] [v1, v2] pos) (tN X.prog X.w (putK (putK [] q1 (.int i1)) q2 (.int i2))) := fun σ F S H Q g oo i k =>
  of_pe (pe_ndsp2 hu pe_w pe_w pe_w pe_w) (fun p hp => by
    have sub : Same S (upd H p (.dT [])) := fun b u e => by
      have q := i b u e
      rw [upd_ne (ne_of_none q hp)]
      exact q
    have ooo : OwnOk O F S (upd H p (.dT [])) := oo.grow ⟨Same.refl _, sub, same_upd hp, fun b u e n => by rw [e] at n; cases n⟩
    refine h1 σ F S _ _ g ooo sub fun y1 S1 H1 g1 ⟨b1, e1, f1⟩ => h2 σ F S1 H1 _ (g.m g1.s) (ooo.grow g1) g1.i fun z1 S2 H2 g2 hz1 => h3 σ F S2 H2 _ ((g.m g1.s).m g2.s) ((ooo.grow g1).grow g2) g2.i fun y2 S3 H3 g3 ⟨b2, e2, f2⟩ => h4 σ F S3 H3 _ (((g.m g1.s).m g2.s).m g3.s) (((ooo.grow g1).grow g2).grow g3) g3.i fun z2 S4 H4 g4 hz2 => ?_
    have hz1 : z1 = .int i1 := hz1
    have hz2 : z2 = .int i2 := hz2
    subst e1 e2 hz1 hz2
    obtain ⟨H5, e5, n5, g5⟩ := (((g1.trans g2).trans g3).trans g4).hide (fun _ z => by cases z) i hp
    subst e5
    refine ⟨S4, b1, q1, b2, q2, rfl, rfl, g4.i, f1.m ((g2.s.trans g3.s).trans g4.s), f2.m g4.s, upd_same, fun o' ok' => ?_⟩
    rw [upd_upd]
    exact k (.ref p) (upd S4 p (NX p o')) _ (g5.trans (.new g5.i n5)) ⟨p, o', rfl, upd_same, ok'.m (same_upd (g5.i.free n5))⟩)
end
end K79
set_option Elab.async false
set_option linter.all false
set_option maxRecDepth 100000
set_option maxHeartbeats 2000000
/-! D17: fewest crossings ahead, the least crossed word. -/
namespace K79
open PySem L2
open PyProof.Rows (envOfC)
/-- the fewest crossings of an end of j signs that brings the row to nothing, behind the sign b -/
def fw (st : List (List Int)) (m : Nat) : Nat → List Int → Int → Option Int
  | 0, r, _ => if r = List.replicate m 0 then some 0 else none
  | j + 1, r, b => (((sgs (st.length - 1 - j)).filter fun s => (fw st m j (led r (st.getD (st.length - 1 - j) []) s) s).isSome).map fun s => (fw st m j (led r (st.getD (st.length - 1 - j) []) s) s).getD 0 + b2n (!decide (s = b))).min?
def rowN (st : List (List Int)) (m j : Nat) (bs : List Int) (r : List Int) : Nd := bs.filterMap fun b => (fw st m j r b).map fun v => ((r, b), V.int v)
def NT (st : List (List Int)) (m j : Nat) (d : Dt) : Nd := d.flatMap fun p => rowN st m j [1, -1] p.1
def NTb (st : List (List Int)) (m : Nat) : Nat → Nd
  | 0 => putK (putK [] (List.replicate m 0, 1) (.int 0)) (List.replicate m 0, -1) (.int 0)
  | j + 1 => NT st m (j + 1) (lay st m (st.length - 1 - j))
theorem putK_newN {d : Nd} {q : NQ} {v : V} (h : ∀ p ∈ d, p.1 ≠ q) : putK d q v = d ++ [(q, v)] := by
  unfold putK
  rw [if_neg]
  rw [List.any_eq_true]
  rintro ⟨p, hp, e⟩
  exact h p hp (of_decide_eq_true e)
theorem rowN_keys {st : List (List Int)} {m j : Nat} {bs : List Int} {r : List Int} : ∀ p ∈ rowN st m j bs r, p.1.1 = r ∧ p.1.2 ∈ bs := fun p hp => by
  obtain ⟨b, hb, e⟩ := List.mem_filterMap.mp hp
  cases h : fw st m j r b with
  | none => rw [h] at e; cases e
  | some v => rw [h] at e; cases e; exact ⟨rfl, hb⟩
theorem valV_append {κ : Type} [DecidableEq κ] (a b : List (κ × V)) (k : κ) : valV (a ++ b) k = (valV a k).or (valV b k) := by
  unfold valV
  rw [List.find?_append]
  cases a.find? (fun kv => decide (kv.1 = k)) <;> rfl
theorem valV_none {κ : Type} [DecidableEq κ] {a : List (κ × V)} {k : κ} (h : ∀ p ∈ a, p.1 ≠ k) : valV a k = none := by
  unfold valV
  rw [Option.map_eq_none_iff, List.find?_eq_none]
  intro p hp
  simpa using h p hp
theorem rowN_val {st : List (List Int)} {m j : Nat} {r : List Int} {b : Int} (hb : b = 1 ∨ b = -1) : valV (rowN st m j [1, -1] r) (r, b) = (fw st m j r b).map V.int := by
  have e : rowN st m j [1, -1] r = rowN st m j [1] r ++ rowN st m j [-1] r := by
    unfold rowN
    rw [← List.filterMap_append]
    rfl
  have one : ∀ c : Int, valV (rowN st m j [c] r) (r, c) = (fw st m j r c).map V.int := fun c => by
    unfold rowN
    cases h : fw st m j r c with
    | none => simp [h, valV]
    | some v => simp [h, valV]
  have oth : ∀ c d : Int, c ≠ d → valV (rowN st m j [c] r) (r, d) = none := fun c d hne => valV_none fun p hp => by
    obtain ⟨h1, h2⟩ := rowN_keys p hp
    have h2 : p.1.2 = c := by simpa using h2
    intro z
    rw [z] at h2
    exact hne h2.symm
  rw [e, valV_append]
  rcases hb with rfl | rfl
  · rw [one, oth (-1) 1 (by decide), Option.or_none]
  · rw [one, oth 1 (-1) (by decide), Option.none_or]
theorem NT_val {st : List (List Int)} {m j : Nat} {r : List Int} {b : Int} (hb : b = 1 ∨ b = -1) : ∀ {d : Dt}, r ∈ d.map (·.1) → valV (NT st m j d) (r, b) = (fw st m j r b).map V.int
  | [], h => by cases h
  | p :: d, h => by
    have e : NT st m j (p :: d) = rowN st m j [1, -1] p.1 ++ NT st m j d := List.flatMap_cons
    rw [e, valV_append]
    by_cases hp : p.1 = r
    · rw [hp, rowN_val hb]
      cases h2 : fw st m j r b with
      | some v => rfl
      | none =>
        show (none : Option V).or _ = none
        rw [Option.none_or]
        clear h e
        induction d with
        | nil => rfl
        | cons q d ih =>
          have e : NT st m j (q :: d) = rowN st m j [1, -1] q.1 ++ NT st m j d := List.flatMap_cons
          rw [e, valV_append, ih, Option.or_none]
          by_cases hq : q.1 = r
          · rw [hq, rowN_val hb, h2]; rfl
          · exact valV_none fun p hp z => hq (by rw [← (rowN_keys p hp).1, z])
    · rw [valV_none (a := rowN st m j [1, -1] p.1) fun x hx z => hp (by rw [← (rowN_keys x hx).1, z]), Option.none_or]
      refine NT_val hb ?_
      rcases List.mem_cons.mp h with z | z
      · exact absurd z.symm hp
      · exact z
theorem NTb_val {st : List (List Int)} {m j : Nat} {r : List Int} {b : Int} (hb : b = 1 ∨ b = -1) (hj : j ≤ st.length) (hr : r ∈ (lay st m (st.length - j)).map (·.1)) : valV (NTb st m j) (r, b) = (fw st m j r b).map V.int := by
  cases j with
  | zero =>
    have e0 : putK ([] : Nd) (List.replicate m 0, 1) (.int 0) = [((List.replicate m 0, 1), .int 0)] := rfl
    have e1 : NTb st m 0 = [((List.replicate m 0, 1), .int 0), ((List.replicate m 0, -1), .int 0)] := by
      unfold NTb
      rw [e0, putK_newN]
      · rfl
      · intro p hp
        have hp : p = ((List.replicate m 0, 1), V.int 0) := by simpa using hp
        rw [hp]
        intro z
        have : (1 : Int) = -1 := congrArg Prod.snd z
        omega
    rw [e1, fw]
    by_cases h : r = List.replicate m 0
    · rw [if_pos h, h]
      rcases hb with rfl | rfl <;> simp [valV]
    · rw [if_neg h]
      refine valV_none fun p hp z => h ?_
      have : p.1.1 = List.replicate m 0 := by
        rcases List.mem_cons.mp hp with e | hp
        · rw [e]
        · have e : p = ((List.replicate m 0, -1), V.int 0) := by simpa using hp
          rw [e]
      rw [← this, z]
  | succ j =>
    exact NT_val hb (by rwa [show st.length - 1 - j = st.length - (j + 1) by omega])
def ntL (st : List (List Int)) (m : Nat) : List Nd := ((List.range (st.length + 1)).map (NTb st m)).reverse
theorem ntL_at {st : List (List Int)} {m k : Nat} (h : k ≤ st.length) : (ntL st m)[k]? = some (NTb st m (st.length - k)) := by
  unfold ntL
  rw [List.getElem?_reverse (by simp; omega), List.length_map, List.length_range, List.getElem?_map, List.getElem?_range (by omega)]
  show some _ = _
  congr 2
theorem NT_keys {st : List (List Int)} {m j : Nat} {d : Dt} : ∀ p ∈ NT st m j d, p.1.1 ∈ d.map (·.1) := fun p hp => by
  obtain ⟨q, hq, h⟩ := List.mem_flatMap.mp hp
  rw [(rowN_keys p h).1]
  exact List.mem_map.mpr ⟨q, hq, rfl⟩
theorem rowN_len {st : List (List Int)} {m j : Nat} {bs : List Int} {r : List Int} : (rowN st m j bs r).length ≤ bs.length := List.length_filterMap_le _ _
theorem NT_len {st : List (List Int)} {m j : Nat} : ∀ {d : Dt}, (NT st m j d).length ≤ d.length * 2
  | [] => Nat.le_refl _
  | p :: d => by
    have e : NT st m j (p :: d) = rowN st m j [1, -1] p.1 ++ NT st m j d := List.flatMap_cons
    have h1 := rowN_len (st := st) (m := m) (j := j) (bs := [1, -1]) (r := p.1)
    have h2 := NT_len (st := st) (m := m) (j := j) (d := d)
    rw [e, List.length_append, List.length_cons]
    simp at h1
    omega
theorem take_new {d : Dt} (nd : (d.map (·.1)).Nodup) {n : Nat} {q : List Int × V} (e : d[n]? = some q) : q.1 ∉ (d.take n).map (·.1) := by
  rw [List.map_take]
  intro hm
  obtain ⟨i, hi⟩ := List.mem_iff_getElem?.mp hm
  rw [List.getElem?_take] at hi
  split at hi
  · rename_i hlt
    have e2 : (d.map (·.1))[n]? = some q.1 := by rw [List.getElem?_map, e]; rfl
    have l1 := (List.getElem?_eq_some_iff.mp hi).1
    have := (List.getElem?_inj l1 nd).mp (hi.trans e2.symm)
    omega
  · cases hi
theorem NT_take {st : List (List Int)} {m j : Nat} {d : Dt} {n : Nat} {q : List Int × V} (e : d[n]? = some q) : NT st m j (d.take (n + 1)) = NT st m j (d.take n) ++ rowN st m j [1, -1] q.1 := by
  unfold NT
  rw [List.take_add_one, e, Option.toList_some, List.flatMap_append]
  simp
section
variable {P : Program} {w : World} {K : PySem.W.Frag} {mg : Str → Option Value} {base : Heap}
theorem eq_isSome {o : Option Int} {v : Int} (h : o = some v) : o.getD 0 = v := by rw [h]; rfl
/-! ### fewest_ahead -/
abbrev spFewest (P : Program) (w : World) (K : PySem.W.Frag) : Sp := spT (α := List (List Int) × Nat) (fun x => [tLst K (x.1.map tRow), tLst K ((lays x.1 x.2).map tDic)]) (fun x => StOk x.1 x.2 ∧ 1 ≤ x.1.length) (fun x => tLst K ((ntL x.1 x.2).map (tN P w)))
abbrev nFewest : List Str := ["steps", "layers", "zeros", "tables", "back", "section", "behind", "table", "row", "before", "found", "entry", "sign"]
theorem sc_fewest : FnScope nFewest ["steps", "layers"] (defScope sFewestAhead) := ⟨rfl, rfl, rfl, by decide +kernel, rfl, by decide +kernel, by decide +kernel⟩
theorem fn_fewest (T : Txt K mg) : Fn P w K mg base "fewest_ahead" 2 ["steps", "layers"] [] (spFewest P w K) := by
  refine fn_of' (st := sFewestAhead) T.d_fewest_ahead (fun _ _ _ _ _ _ us h => match us, h with | [_, _], _ => rfl) sc_fewest (fun _ => rfl) fun f cdv Ar outer s H E x pre hr S D hR _ => ?_
  obtain ⟨st, m⟩ := x
  obtain ⟨ok, n1⟩ : StOk st m ∧ 1 ≤ st.length := pre
  have nd := sc_fewest.nd
  have m6 := ok.m6
  have n8 := ok.n8
  have hlay : ∀ k, k ≤ st.length → (lay st m k).length ≤ 256 := fun k hk => by
    have h1 := lay_len st m k
    have h2 : 2 ^ k ≤ 2 ^ 8 := Nat.pow_le_pow_right (by decide) (by omega)
    omega
  have lat : ∀ {k}, k ≤ st.length → (lays st m)[k]? = some (lay st m k) := fun {k} h => by
    unfold lays
    rw [List.getElem?_map, List.getElem?_range (by omega)]
    rfl
  show BTy _ _ _ _ [some (tLst K (st.map tRow)), some (tLst K ((lays st m).map tDic)), none, none, none, none, none, none, none, none, none, none, none] _ _
  refine bt_set (T := tRow (List.replicate m 0)) 2 nd (et_le (et_tuple T.f_tuple (et_eq (et_lcT (x := "entry") (k := 11) ⟨nd, blkOk_by (own := [("entry", 11)]) (N := nFewest) (sc := defScope sFewestAhead) (by decide +kernel), rfl, rfl⟩ (st.getD 0 []) tI (fun _ => tI 0) (fun _ => true) (et_le (et_ixL (k := 0) (et_var 0) et_int rfl (map_at (getL (by omega)))) tRow_tup) (by rw [ok.at (by omega)]; omega) (fun y _ => ifs_nil) (fun y _ _ s0 H0 C cl fp => et_int)) (congrArg (tLst K) (zeros_of (ok.at (by omega)))))) le_tRow) ?_
  refine bt_newL1 (T := tN P w (NTb st m 0)) 3 nd (et_ndsp2 (units16 hr) (et_le (et_tupH (at_cons (et_var 2) (at_one et_int))) le_tKey) et_int (et_le (et_tupH (ts := [tRow (List.replicate m 0), tI (-1)]) (at_cons (et_var 2) (at_one (et_eq (et_neg et_int) rfl)))) le_tKey) et_int) fun pt => ?_
  refine bt_forR 4 st.length (fun j => [some (tLst K (st.map tRow)), some (tLst K ((lays st m).map tDic)), some (tRow (List.replicate m 0)), some (tV (.ref pt)), none, none, none, none, none, none, none, none, none]) (fun j => [(pt, oL (((List.range (j + 1)).map (NTb st m)).map (tN P w)))]) nd PassesOwn.never T.f_range (et_eq (et_lenL T.f_len (et_var 0)) (by rw [List.length_map])) (by omega) (.refl _) rfl (fun S1 H1 g j hj => ?_) ?_
  · have hk : st.length - 1 - j < st.length := by omega
    have hal := ok.at hk
    refine bt_set (T := tI ((st.length - 1 - j : Nat) : Int)) 5 nd (et_eq (et_sub (et_sub (et_lenL T.f_len (et_var 0)) et_int) (et_var 4)) (congrArg tI (show (((st.map tRow).length : Nat) : Int) - 1 - (j : Int) = ((st.length - 1 - j : Nat) : Int) by rw [List.length_map]; omega))) ?_
    refine bt_set (T := tN P w (NTb st m j)) 6 nd (et_ixO (m := j) 0 rfl (et_var 3) (et_var 4) rfl (map_at (by rw [List.getElem?_map, List.getElem?_range (by omega)]; rfl))) ?_
    refine bt_newD 7 nd fun pn => bt_toN ?_
    refine bt_forD (d := lay st m (st.length - 1 - j)) 8 (fun _ => [some (tLst K (st.map tRow)), some (tLst K ((lays st m).map tDic)), some (tRow (List.replicate m 0)), some (tV (.ref pt)), some (tI (j : Nat)), some (tI ((st.length - 1 - j : Nat) : Int)), some (tN P w (NTb st m j)), some (tV (.ref pn)), none, none, none, none, none]) (fun i => [(pn, oN P w (NT st m (j + 1) ((lay st m (st.length - 1 - j)).take i))), (pt, oL (((List.range (j + 1)).map (NTb st m)).map (tN P w)))]) nd PassesOwn.never (et_ixL (et_var 1) (et_var 5) rfl (map_at (lat (by omega)))) (.refl _) rfl (fun S2 H2 g2 i q hq => ?_) ?_
    · have hqm := List.mem_of_getElem? hq
      have hqk : q.1 ∈ (lay st m (st.length - 1 - j)).map (·.1) := List.mem_map.mpr ⟨q, hqm, rfl⟩
      have hql := lay_klen hqk
      have hnew := take_new (lay_nd st m (st.length - 1 - j)) hq
      have hlen0 : (NT st m (j + 1) ((lay st m (st.length - 1 - j)).take i)).length ≤ 512 := by
        have h1 := NT_len (st := st) (m := m) (j := j + 1) (d := (lay st m (st.length - 1 - j)).take i)
        have h2 := hlay (st.length - 1 - j) (by omega)
        rw [List.length_take] at h1
        omega
      refine bt_forT (ts := [(1 : Int), -1].map tI) 9 (fun _ => [some (tLst K (st.map tRow)), some (tLst K ((lays st m).map tDic)), some (tRow (List.replicate m 0)), some (tV (.ref pt)), some (tI (j : Nat)), some (tI ((st.length - 1 - j : Nat) : Int)), some (tN P w (NTb st m j)), some (tV (.ref pn)), some (tRow q.1), none, none, none, none]) (fun n => [(pn, oN P w (NT st m (j + 1) ((lay st m (st.length - 1 - j)).take i) ++ rowN st m (j + 1) ([1, -1].take n) q.1)), (pt, oL (((List.range (j + 1)).map (NTb st m)).map (tN P w)))]) nd PassesOwn.never (et_tup (ts := [tI 1, tI (-1)]) (at_cons et_int (at_one (et_eq (et_neg et_int) rfl)))) (.refl _) (by show [(pn, oN P w (_ ++ [])), _] = _; rw [List.append_nil]) (fun S3 H3 g3 n U hU => ?_) ?_
      · obtain ⟨b, eb, rfl⟩ := at_map hU
        have hb : b = 1 ∨ b = -1 := by
          have := List.mem_of_getElem? eb
          simpa using this
        have hins : ∀ {y}, y ∈ sgs (st.length - 1 - j) → valV (NTb st m j) (led q.1 (st.getD (st.length - 1 - j) []) y, y) = (fw st m j (led q.1 (st.getD (st.length - 1 - j) []) y) y).map V.int := fun {y} hy => by
          refine NTb_val (sgs_mem hy) (by omega) ?_
          have := lay_step hqk hy
          rwa [show st.length - 1 - j + 1 = st.length - j by omega] at this
        have ledE : ∀ {X : Cx} {y : Int} {Γ : Env} {a b c : Expr} {p1 p2 : Pos}, y ∈ sgs (st.length - 1 - j) → True := fun _ => trivial
        generalize hns : (((sgs (st.length - 1 - j)).filter fun s => (fw st m j (led q.1 (st.getD (st.length - 1 - j) []) s) s).isSome).map fun s => (fw st m j (led q.1 (st.getD (st.length - 1 - j) []) s) s).getD 0 + b2n (!decide (s = b))) = ns
        have hfw : fw st m (j + 1) q.1 b = ns.min? := by rw [fw, hns]
        refine bt_setLc (T := tLst K (ns.map tI)) 10 (k := 12) ⟨nd, blkOk_by (own := [("sign", 12)]) (N := nFewest) (sc := defScope sFewestAhead) (by decide +kernel), rfl, rfl⟩ (pi_tup pe_w) (rt_eq (rt_lcT (sgs (st.length - 1 - j)) tI (fun y => tI ((fw st m j (led q.1 (st.getD (st.length - 1 - j) []) y) y).getD 0 + b2n (!decide (y = b)))) (fun y => (fw st m j (led q.1 (st.getD (st.length - 1 - j) []) y) y).isSome) (et_call (x := st.length - 1 - j) (fn_signsAt T) (hr.mono (by decide)) trivial (at_one (et_var 5))) (by have := sgs_len (st.length - 1 - j); omega) (fun y hy => ifs_one fun s0 H0 C cl fp => ?_) (fun y hy hks s0 H0 C cl fp => ?_)) ?_) ?_
        · refine tt_eq (tt_nin (kvs := NTb st m j) (q := (led q.1 (st.getD (st.length - 1 - j) []) y, y)) (units16 hr) (et_le (et_tupH (at_cons (et_call (x := (q.1, st.getD (st.length - 1 - j) [], y)) (fn_led T) (hr.mono (by decide)) ⟨hql.trans hal.symm, show q.1.length ≤ 6 by omega, sgs_mem hy⟩ (at_cons (et_var 8) (at_cons (et_ixL (et_var 0) (et_var 5) rfl (map_at (getL hk))) (at_one (et_var 12))))) (at_one (et_var 12)))) le_tKey) (et_var 6)) ?_
          rw [hins hy, Option.isSome_map]
        · obtain ⟨v, hv⟩ := Option.isSome_iff_exists.mp hks
          rw [eq_isSome hv]
          refine et_add (i := v) (j := b2n (!decide (y = b))) ?_ (et_intB T.f_int (et_neI (et_var 12) (et_var 9)))
          refine et_nget (kvs := NTb st m j) (q := (led q.1 (st.getD (st.length - 1 - j) []) y, y)) (n := v) (units16 hr) (et_var 6) ?_ (by rw [hins hy, hv]; rfl) ?_
          · exact et_le (et_tupH (at_cons (et_call (x := (q.1, st.getD (st.length - 1 - j) [], y)) (fn_led T) (hr.mono (by decide)) ⟨hql.trans hal.symm, show q.1.length ≤ 6 by omega, sgs_mem hy⟩ (at_cons (et_var 8) (at_cons (et_ixL (et_var 0) (et_var 5) rfl (map_at (getL hk))) (at_one (et_var 12))))) (at_one (et_var 12)))) le_tKey
          · exact fun _ _ => rfl
        · rw [← hns, List.map_map]
          rfl
        have hsnoc : [1, -1].take (n + 1) = ([1, -1] : List Int).take n ++ [b] := by rw [List.take_add_one, eb]; rfl
        have hrow : rowN st m (j + 1) ([1, -1].take (n + 1)) q.1 = rowN st m (j + 1) ([1, -1].take n) q.1 ++ rowN st m (j + 1) [b] q.1 := by
          rw [hsnoc]
          unfold rowN
          rw [List.filterMap_append]
        refine bt_if (k := decide (0 < (ns.length : Int))) (tt_eq (tt_gt (et_lenL T.f_len (et_var 10)) et_int) (by rw [List.length_map])) (fun h => ?_) (fun h => ?_)
        · have h := of_decide_eq_true h
          have h0 : 0 < ns.length := by omega
          obtain ⟨v, hv⟩ : ∃ v, ns.min? = some v := Option.isSome_iff_exists.mp (by
            cases ns with
            | nil => simp at h0
            | cons x r => rfl)
          have hvm := List.min?_eq_some_iff.mp hv
          refine bt_nput (kvs := NT st m (j + 1) ((lay st m (st.length - 1 - j)).take i) ++ rowN st m (j + 1) ([1, -1].take n) q.1) (q := (q.1, b)) (v := .int v) 0 rfl (units16 hr) (et_var 7) (et_le (et_tupH (at_cons (et_var 8) (at_one (et_var 9)))) le_tKey) (et_min (ns := ns) rfl T.f_min (et_var 10) h0 (fun x hx1 hx2 => ?_)) ?_ ?_
          · have e : x = v := by
              have h1 := hx2 v hvm.1
              have h2 := hvm.2 x hx1
              omega
            rw [e]
            exact Ty.le_refl _
          · have := rowN_len (st := st) (m := m) (j := j + 1) (bs := [1, -1].take n) (r := q.1)
            rw [List.length_take] at this
            rw [List.length_append]
            simp at this
            omega
          · refine bt_on ?_
            refine bt_nil fun σ S H g e o => ⟨S, g, e.le (el_eq (el_eq (el_eq (el_eq (el_eq (el_eq (el_eq (el_eq (el_eq (el_no (el_no (el_no (el_no el_nil))))))))))))), ?_⟩
            show OwnOk [(pn, oN P w (_ ++ rowN st m (j + 1) ([1, -1].take (n + 1)) q.1)), _] _ _ _
            have e1 : rowN st m (j + 1) [b] q.1 = [((q.1, b), V.int v)] := by
              unfold rowN
              simp [hfw, hv]
            rw [hrow, e1, ← List.append_assoc]
            rw [putK_newN] at o
            · exact o
            · intro p hp z
              rcases List.mem_append.mp hp with hp | hp
              · refine hnew ?_
                have := NT_keys p hp
                rwa [z] at this
              · obtain ⟨h1, h2⟩ := rowN_keys p hp
                rw [z] at h2
                have h2 : b ∈ ([1, -1] : List Int).take n := h2
                match n, eb, h2 with
                | 0, _, h2 => simp at h2
                | 1, eb, h2 =>
                  have e : b = -1 := by simpa using eb.symm
                  have e2 : b = 1 := by simpa using h2
                  omega
                | n + 2, eb, _ => simp at eb
        · have h := of_decide_eq_false h
          have h0 : ns = [] := List.eq_nil_of_length_eq_zero (by omega)
          refine bt_on ?_
          refine bt_nil fun σ S H g e o => ⟨S, g, e.le (el_eq (el_eq (el_eq (el_eq (el_eq (el_eq (el_eq (el_eq (el_eq (el_no (el_no (el_no (el_no el_nil))))))))))))), ?_⟩
          show OwnOk [(pn, oN P w (_ ++ rowN st m (j + 1) ([1, -1].take (n + 1)) q.1)), _] _ _ _
          have e1 : rowN st m (j + 1) [b] q.1 = [] := by
            unfold rowN
            simp [hfw, h0]
          rw [hrow, e1, List.append_nil]
          exact o
      · refine bt_nil fun σ S H g e o => ⟨S, g, e.le (el_eq (el_eq (el_eq (el_eq (el_eq (el_eq (el_eq (el_eq (el_no (el_no (el_no (el_no (el_no el_nil))))))))))))), ?_⟩
        rw [NT_take hq]
        exact o
    · rw [List.take_length]
      refine bt_frzN 7 rfl ?_
      refine bt_app (T := tN P w (NTb st m (j + 1))) 0 rfl (et_var 3) (et_var 7) (by rw [List.length_map, List.length_map, List.length_range]; omega) ?_
      refine bt_nil fun σ S H g e o => ⟨S, g, e.le (el_eq (el_eq (el_eq (el_eq (el_no (el_no (el_no (el_no (el_no (el_no (el_no (el_no (el_no el_nil))))))))))))), ?_⟩
      rw [range_snoc, List.map_append]
      exact o
  · refine bt_frzL 3 rfl ?_
    refine bt_ret (et_eq (et_revL (et_var 3)) ?_) hR
    rw [← List.map_reverse]
    rfl
/-! ### least_crossed -/
theorem fw_some {st : List (List Int)} {m j : Nat} {r : List Int} {b c : Int} (h : fw st m (j + 1) r b = some c) : ∃ s ∈ sgs (st.length - 1 - j), ∃ c', fw st m j (led r (st.getD (st.length - 1 - j) []) s) s = some c' ∧ c' + b2n (!decide (s = b)) = c := by
  rw [fw] at h
  obtain ⟨hm, _⟩ := List.min?_eq_some_iff.mp h
  obtain ⟨s, hs, e⟩ := List.mem_map.mp hm
  obtain ⟨h1, h2⟩ := List.mem_filter.mp hs
  obtain ⟨c', hc⟩ := Option.isSome_iff_exists.mp h2
  exact ⟨s, h1, c', hc, by rw [← e, eq_isSome hc]⟩
def lcS (st : List (List Int)) (m : Nat) : Nat → List Int × Int × List Int
  | 0 => (List.replicate m 0, 1, [])
  | k + 1 =>
    let p := lcS st m k
    let s : Int := if (fw st m (st.length - 1 - k) (led p.1 (st.getD k []) 1) 1).map (· + b2n (!decide (p.2.1 = 1))) = fw st m (st.length - k) p.1 p.2.1 then 1 else -1
    (led p.1 (st.getD k []) s, s, p.2.2 ++ [s])
def lcW (st : List (List Int)) (m : Nat) : List Int := (lcS st m st.length).2.2
theorem lcS_inv {st : List (List Int)} {m : Nat} (h : (fw st m st.length (List.replicate m 0) 1).isSome = true) : ∀ k, k ≤ st.length →
    (lcS st m k).1 ∈ (lay st m k).map (·.1) ∧ ((lcS st m k).2.1 = 1 ∨ (lcS st m k).2.1 = -1) ∧ (fw st m (st.length - k) (lcS st m k).1 (lcS st m k).2.1).isSome = true ∧ (lcS st m k).2.2.length = k
  | 0, _ => ⟨by simp [lcS, lay], .inl rfl, h, rfl⟩
  | k + 1, hk => by
    obtain ⟨a1, a2, a3, a4⟩ := lcS_inv h k (by omega)
    have ej : st.length - k = (st.length - 1 - k) + 1 := by omega
    have ek : st.length - 1 - (st.length - 1 - k) = k := by omega
    have e1 : st.length - (k + 1) = st.length - 1 - k := by omega
    have s1 : (1 : Int) ∈ sgs k := by unfold sgs; split <;> simp
    unfold lcS
    simp only
    obtain ⟨c, hc⟩ := Option.isSome_iff_exists.mp a3
    have hc' := hc
    rw [ej] at hc'
    obtain ⟨s, hs, c', h1, h2⟩ := fw_some hc'
    rw [ek] at hs h1
    split
    · rename_i z
      refine ⟨lay_step a1 s1, .inl rfl, ?_, by simp [a4]⟩
      rw [e1]
      rw [hc] at z
      cases h3 : fw st m (st.length - 1 - k) (led (lcS st m k).1 (st.getD k []) 1) 1 with
      | none => rw [h3] at z; cases z
      | some v => rfl
    · rename_i z
      have hs' : s = -1 := by
        rcases sgs_mem hs with e | e
        · exfalso
          apply z
          subst e
          rw [h1, hc, ← h2]
          show some _ = some _
          congr 2
          rcases a2 with e | e <;> rw [e] <;> rfl
        · exact e
      subst hs'
      exact ⟨lay_step a1 hs, .inr rfl, by rw [e1, h1]; rfl, by simp [a4]⟩
def tLeast (K : PySem.W.Frag) (st : List (List Int)) (m : Nat) : Ty := if (fw st m st.length (List.replicate m 0) 1).isSome = true then tW K (lcW st m) else tNo
abbrev spLeast (K : PySem.W.Frag) : Sp := spT (α := Ln × List (List Rat)) (fun x => [tLine K x.1, tSpan K x.2]) (fun x => HuB x.1 x.2) (fun x => tLeast K (steps x.1 x.2) x.2.length)
abbrev nLeast : List Str := ["line", "span", "hums", "steps", "tables", "row", "word", "before", "section", "adds", "due", "sign", "straight"]
theorem sc_least : FnScope nLeast ["line", "span"] (defScope sLeastCrossed) := ⟨rfl, rfl, rfl, by decide +kernel, rfl, by decide +kernel, by decide +kernel⟩
theorem fn_least (T : Txt K mg) : Fn P w K mg base "least_crossed" 6 ["line", "span"] [] (spLeast K) := by
  refine fn_of' (st := sLeastCrossed) T.d_least_crossed (fun _ _ _ _ _ _ us h => match us, h with | [_, _], _ => rfl) sc_least (fun _ => rfl) fun f cdv Ar outer s H E x pre hr S D hR _ => ?_
  obtain ⟨L, hs⟩ := x
  have ok : HuB L hs := pre
  have nd := sc_least.nd
  have hlen := steps_len L hs
  have okst := steps_ok (hs := hs) ok.l8 ok.sp.l6
  have l6 := ok.sp.l6
  have n1 := ok.sp.n1
  have hR : RetOk S H (tLeast K (steps L hs) hs.length) D.rt := hR
  have hW : ∀ t ∈ hs, WhOk L t := ok.wh
  have l8 := ok.l8
  generalize hst : steps L hs = st at hlen okst hR
  generalize hm : hs.length = m at okst l6 hR
  have n8 := okst.n8
  show BTy _ _ _ _ [some (tLine K L), some (tSpan K hs), none, none, none, none, none, none, none, none, none, none, none] _ _
  refine bt_set 2 nd (et_call (x := (L, hs)) (fn_told T) hr ok.sp (at_cons (et_var 0) (at_one (et_var 1)))) ?_
  refine bt_set (T := tLst K (st.map tRow)) 3 nd (et_eq (et_call (x := (L, hs)) (fn_steps T) hr ⟨hW, show L.ls.length ≤ 24 by omega, by show hs.length ≤ 6; omega⟩ (at_cons (et_var 0) (at_one (et_var 2)))) (by rw [hst]; rfl)) ?_
  have eLen : ∀ {Γ : Env}, Γ[2]? = some (some (tTup K (hs.map (tQs K)))) → True := fun _ => trivial
  refine bt_set (T := tLst K ((ntL st m).map (tN P w))) 4 nd (et_call (x := (st, m)) (fn_fewest T) (hr.mono (by decide)) ⟨okst, by show 1 ≤ st.length; omega⟩ (at_cons (et_var 3) (at_one (et_call (x := (st, m)) (fn_layers T) (hr.mono (by decide)) okst (at_cons (et_var 3) (at_one (et_eq (et_lenT T.f_len (et_var 2)) (by rw [List.length_map, hm])))))))) ?_
  refine bt_set (T := tRow (List.replicate m 0)) 5 nd (et_le (et_tuple T.f_tuple (et_rep (n := m) et_int (et_eq (et_lenT T.f_len (et_var 2)) (by rw [List.length_map, hm])) (by omega))) le_tRow) ?_
  have h00 : List.replicate m 0 ∈ (lay st m 0).map (·.1) := by simp [lay]
  have v0 := NTb_val (st := st) (m := m) (j := st.length) (r := List.replicate m 0) (b := 1) (.inl rfl) (Nat.le_refl _) (by rw [Nat.sub_self]; exact h00)
  refine bt_lv (k := !(fw st m st.length (List.replicate m 0) 1).isSome) (tt_eq (tt_nnotin (kvs := NTb st m st.length) (q := (List.replicate m 0, 1)) (units16 hr) (et_le (et_tupH (at_cons (et_var 5) (at_one et_int))) le_tKey) (et_ixL (k := 0) (et_var 4) et_int rfl (map_at (ntL_at (Nat.zero_le _))))) (by rw [v0, Option.isSome_map])) (fun h => ?_) (fun h => ?_)
  · refine bt_ret (et_eq et_non ?_) hR
    unfold tLeast
    rw [if_neg (by rw [Bool.not_eq_true']  at h; rw [h]; decide)]
  have hsome : (fw st m st.length (List.replicate m 0) 1).isSome = true := by simpa using h
  have inv := lcS_inv hsome
  refine bt_newL 6 nd fun pw => ?_
  refine bt_set 7 nd et_int ?_
  refine bt_forE (ts := st.map tRow) 8 9 (fun k => [some (tLine K L), some (tSpan K hs), some (tTup K (hs.map (tQs K))), some (tLst K (st.map tRow)), some (tLst K ((ntL st m).map (tN P w))), some (tRow (lcS st m k).1), some (tV (.ref pw)), some (tI (lcS st m k).2.1), none, none, none, none, none]) (fun k => [(pw, oL ((lcS st m k).2.2.map tI))]) nd PassesOwn.never (pi_enum rfl T.f_enumerate pa_w) (enTy_L (et_var 3)) (.refl _) rfl (fun S1 H1 g k U hU => ?_) ?_
  · obtain ⟨a, ea, rfl⟩ := at_map hU
    have hk : k < st.length := (List.getElem?_eq_some_iff.mp ea).1
    have ead : st.getD k [] = a := Option.some.inj ((getL hk).symm.trans ea)
    have hal := okst.len a (List.mem_of_getElem? ea)
    obtain ⟨a1, a2, a3, a4⟩ := inv k (by omega)
    have hrl := lay_klen a1
    have s1 : (1 : Int) ∈ sgs k := by unfold sgs; split <;> simp
    have hin := lay_step a1 s1
    have e1 : st.length - (k + 1) = st.length - 1 - k := by omega
    have hS : lcS st m (k + 1) = (led (lcS st m k).1 a (if (fw st m (st.length - 1 - k) (led (lcS st m k).1 a 1) 1).map (· + b2n (!decide ((lcS st m k).2.1 = 1))) = fw st m (st.length - k) (lcS st m k).1 (lcS st m k).2.1 then 1 else -1), (if (fw st m (st.length - 1 - k) (led (lcS st m k).1 a 1) 1).map (· + b2n (!decide ((lcS st m k).2.1 = 1))) = fw st m (st.length - k) (lcS st m k).1 (lcS st m k).2.1 then 1 else -1), (lcS st m k).2.2 ++ [(if (fw st m (st.length - 1 - k) (led (lcS st m k).1 a 1) 1).map (· + b2n (!decide ((lcS st m k).2.1 = 1))) = fw st m (st.length - k) (lcS st m k).1 (lcS st m k).2.1 then 1 else -1)]) := by
      rw [lcS]
      simp only [ead]
    generalize hp : lcS st m k = p at hS a1 a2 a3 a4 hrl hin
    obtain ⟨r, b, wd⟩ := p
    simp only at hS a2 a3 a4 hrl hin
    rw [ead] at hin
    obtain ⟨c, hc⟩ := Option.isSome_iff_exists.mp a3
    have vd := NTb_val (st := st) (m := m) (j := st.length - k) (r := r) (b := b) a2 (by omega) (by rw [show st.length - (st.length - k) = k by omega]; exact a1)
    have vs := NTb_val (st := st) (m := m) (j := st.length - (k + 1)) (r := led r a 1) (b := 1) (.inl rfl) (by omega) (by rw [show st.length - (st.length - (k + 1)) = k + 1 by omega]; exact hin)
    rw [e1] at vs
    refine bt_set (T := tI c) 10 nd (et_nget (kvs := NTb st m (st.length - k)) (q := (r, b)) (units16 hr) (et_ixL (k := k) (et_var 4) (et_var 8) rfl (map_at (ntL_at (by omega)))) (et_le (et_tupH (at_cons (et_var 5) (at_one (et_var 7)))) le_tKey) (by rw [vd, hc]; rfl)) ?_
    refine bt_set 11 nd et_int ?_
    refine bt_set (T := tKey (led r a 1, 1)) 12 nd (et_le (et_tupH (at_cons (et_call (x := (r, a, 1)) (fn_led T) (hr.mono (by decide)) ⟨hrl.trans hal.symm, show r.length ≤ 6 by omega, .inl rfl⟩ (at_cons (et_var 5) (at_cons (et_var 9) (at_one et_int)))) (at_one et_int))) le_tKey) ?_
    refine bt_if (k := !decide ((fw st m (st.length - 1 - k) (led r a 1) 1).map (· + b2n (!decide (b = 1))) = fw st m (st.length - k) r b)) (tt_eq (tt_w (wt_or2 (k := !(fw st m (st.length - 1 - k) (led r a 1) 1).isSome) (l := !decide ((fw st m (st.length - 1 - k) (led r a 1) 1).map (· + b2n (!decide (b = 1))) = some c)) (tt_eq (tt_nnotin (kvs := NTb st m (st.length - 1 - k)) (q := (led r a 1, 1)) (units16 hr) (et_var 12) (et_ixL (T := tN P w (NTb st m (st.length - 1 - k))) (k := k + 1) (et_var 4) (et_add (et_var 8) et_int) (by omega) (by rw [← e1]; exact map_at (ntL_at (by omega))))) (by rw [vs, Option.isSome_map])) (fun h => ?_))) ?_) (fun h => ?_) (fun h => ?_)
    · have h : (fw st m (st.length - 1 - k) (led r a 1) 1).isSome = true := by simpa using h
      obtain ⟨v, hv⟩ := Option.isSome_iff_exists.mp h
      refine wt_or1 (tt_eq (tt_ne (et_add (i := v) (j := b2n (!decide (b = 1))) (et_nget (kvs := NTb st m (st.length - 1 - k)) (q := (led r a 1, 1)) (units16 hr) (et_ixL (T := tN P w (NTb st m (st.length - 1 - k))) (k := k + 1) (et_var 4) (et_add (et_var 8) et_int) (by omega) (by rw [← e1]; exact map_at (ntL_at (by omega)))) (et_var 12) (by rw [vs, hv]; rfl)) (et_intB T.f_int (et_neI (et_var 7) et_int))) (et_var 10)) ?_)
      rw [hv]
      show _ = !decide (some (v + b2n (!decide (b = 1))) = some c)
      by_cases z : v + b2n (!decide (b = 1)) = c
      · rw [decide_eq_true z, z]; simp
      · rw [decide_eq_false z]
        have : ¬ some (v + b2n (!decide (b = 1))) = some c := fun y => z (Option.some.inj y)
        show _ = !decide (some (v + b2n (!decide (b = 1))) = some c)
        rw [decide_eq_false this]
    · rw [hc]
      cases hv : fw st m (st.length - 1 - k) (led r a 1) 1 with
      | none => rfl
      | some v => rfl
    · have h : ¬ (fw st m (st.length - 1 - k) (led r a 1) 1).map (· + b2n (!decide (b = 1))) = fw st m (st.length - k) r b := by simpa using h
      rw [if_neg h] at hS
      refine bt_set 11 nd (et_eq (et_neg et_int) rfl) ?_
      refine bt_on ?_
      refine bt_app (T := tI (-1)) 0 rfl (et_var 6) (et_var 11) (by rw [List.length_map]; show wd.length ≤ 99999; omega) ?_
      refine bt_set (T := tRow (led r a (-1))) 5 nd (et_call (x := (r, a, (-1))) (fn_led T) (hr.mono (by decide)) ⟨hrl.trans hal.symm, show r.length ≤ 6 by omega, .inr rfl⟩ (at_cons (et_var 5) (at_cons (et_var 9) (at_one (et_var 11))))) ?_
      refine bt_set 7 nd (et_var 11) ?_
      refine bt_nil fun σ S H g e o => ⟨S, g, ?_, ?_⟩
      · rw [hS]
        exact e.le (el_eq (el_eq (el_eq (el_eq (el_eq (el_eq (el_eq (el_eq (el_no (el_no (el_no (el_no (el_no el_nil)))))))))))))
      · rw [hS, List.map_append]
        exact o
    · have h : (fw st m (st.length - 1 - k) (led r a 1) 1).map (· + b2n (!decide (b = 1))) = fw st m (st.length - k) r b := by simpa using h
      rw [if_pos h] at hS
      refine bt_on ?_
      refine bt_app (T := tI 1) 0 rfl (et_var 6) (et_var 11) (by rw [List.length_map]; show wd.length ≤ 99999; omega) ?_
      refine bt_set (T := tRow (led r a 1)) 5 nd (et_call (x := (r, a, 1)) (fn_led T) (hr.mono (by decide)) ⟨hrl.trans hal.symm, show r.length ≤ 6 by omega, .inl rfl⟩ (at_cons (et_var 5) (at_cons (et_var 9) (at_one (et_var 11))))) ?_
      refine bt_set 7 nd (et_var 11) ?_
      refine bt_nil fun σ S H g e o => ⟨S, g, ?_, ?_⟩
      · rw [hS]
        exact e.le (el_eq (el_eq (el_eq (el_eq (el_eq (el_eq (el_eq (el_eq (el_no (el_no (el_no (el_no (el_no el_nil)))))))))))))
      · rw [hS, List.map_append]
        exact o
  · rw [List.length_map]
    refine bt_frzL 6 rfl ?_
    refine bt_ret (et_eq (et_tuple' T.f_tuple (et_var 6)) ?_) hR
    unfold tLeast
    rw [if_pos hsome]
    rfl
end
end K79
set_option Elab.async false
set_option linter.all false
set_option maxRecDepth 100000
/-! KJ: values known by a property; the hand: a list that changes and is known by what is always true of it. -/
namespace K79
open PySem L2
open PyProof.Rows (envOfC)
/-- an int with a property -/
def tIP (P : Int → Prop) : Ty := tEx fun v => tWhen (tI v) (P v)
theorem tIP_of {P : Int → Prop} {v : Int} (h : P v) : (tI v).le (tIP P) := fun _ _ z => ⟨v, z, h⟩
def tQP (K : PySem.W.Frag) (P : Rat → Prop) : Ty := tEx fun q => tWhen (tQ K q) (P q)
/-- a test, whatever it answers -/
def TTyU (X : Cx) (O : Owns) (Γ : Env) (e : Expr) : Prop := ∀ (σ : L2.St) (F S H : Hp) (Q : Bool → Hp → Prop), EnvOk Γ σ S → OwnOk O F S H → Same S H → (∀ b S' H', Grow S H S' H' → Q b H') → wT X e σ H Q
section
variable {X : Cx} {S0 H0 : Hp} {O : Owns} {Γ Δ : Env} {D : Ends} {e a b c o : Expr} {es : List Expr} {rest body orelse : List Stmt} {T U R : Ty} {ts : List Ty} {pos pos' p2 : Pos} {x : Str} {i j : Int} {P Q' : Int → Prop} {p : Addr}
theorem ttu_of {k : Bool} (h : TTy X O Γ e k) : TTyU X O Γ e := fun σ F S H Q g o i q => h σ F S H Q g o i fun S' H' g' => q k S' H' g'
theorem ttu_eqP (ha : ETy X O Γ a (tIP P)) (hb : ETy X O Γ b (tI j)) (hm : behindInMarks .Eq b = false := by rfl) : TTyU X O Γ (.Compare a [.Eq] [b] pos) := fun σ F S H Q g o i q =>
  of_pt (pt_cmpR op_eq pe_w pe_w hm) (ha σ F S H _ g o i fun x S1 H1 g1 ⟨v, hv, _⟩ => hb σ F S1 H1 _ (g.m g1.s) (o.grow g1) g1.i fun y S2 H2 g2 t2 => by
    have hv : x = .int v := hv
    have t2 : y = .int j := t2
    subst hv t2
    exact ⟨rfl, _, rfl, q _ S2 H2 (g1.trans g2)⟩)
theorem et_addP (ha : ETy X O Γ a (tI i)) (hb : ETy X O Γ b (tIP P)) (h : ∀ v, P v → Q' (i + v)) : ETy X O Γ (.BinOp a .Add b pos) (tIP Q') :=
  et_bin op_add ha hb fun u v S H Q h1 ⟨z, h2, h3⟩ e q => by
    have h1 : u = .int i := h1
    have h2 : v = .int z := h2
    subst h1 h2
    exact ⟨i, z, rfl, rfl, q _ S H (.refl e) ⟨_, rfl, h z h3⟩⟩
theorem et_subP (ha : ETy X O Γ a (tIP P)) (hb : ETy X O Γ b (tI j)) (h : ∀ v, P v → Q' (v - j)) : ETy X O Γ (.BinOp a .Sub b pos) (tIP Q') :=
  et_bin op_sub ha hb fun u v S H Q ⟨z, h2, h3⟩ h1 e q => by
    have h1 : v = .int j := h1
    have h2 : u = .int z := h2
    subst h1 h2
    exact ⟨z, j, rfl, rfl, q _ S H (.refl e) ⟨_, rfl, h z h3⟩⟩
/-- [..][e], e known by a property -/
theorem et_ixP {ns : List Int} (ha : ETy X O Γ a (tLst X.K (ns.map tI))) (hb : ETy X O Γ b (tIP P)) (h : ∀ v, P v → 0 ≤ v ∧ v < ns.length) (hs : PlainIx b := by exact fun _ _ => rfl) : ETy X O Γ (.Subscript a b pos) (tIP fun z => z ∈ ns) :=
  et_ix ix_list ha hb hs fun u v S H Q ⟨p, vs, h1, h2, h3⟩ ⟨z, h4, h5⟩ e q => by
    have h4 : v = .int z := h4
    subst h4
    obtain ⟨g1, g2⟩ := h z h5
    have hz : z = ((z.toNat : Nat) : Int) := by omega
    have hn : z.toNat < ns.length := by omega
    obtain ⟨w, h6, h7⟩ := h3.get (map_at (f := tI) (List.getElem?_eq_getElem hn))
    exact ⟨p, vs, z, w, h1, rfl, same_l e h2, by rw [hz]; exact atI_nat h6, q w S H (.refl e) ⟨_, h7, List.getElem_mem hn⟩⟩
/-- a call whose arguments are known by properties -/
theorem et_callX {α : Type} {A : α → List Ty} {Pre : α → Prop} {Rr : α → Ty} {nm : Str} {k : Nat} {ps : List Str} {pn : Pos} (F : Fn X.prog X.w X.K X.mg X.base nm k ps [] (spT A Pre Rr)) (hr : Room k X.A) (ha : ATy X O Γ (e :: es) ts) (hx : ∀ vs S, All2 ts vs S → ∃ x, Pre x ∧ All2 (A x) vs S ∧ (Rr x).le T) (hg : Gl X nm := by rfl) (hd : (nm == ("__debug__" : Str)) = false := by decide) (he : starEach (e :: es) X.env = (false, eval e X.env) :: starEach es X.env := by rfl)
    (hpl : (backTo pos (starEach es X.env)).any (·.1) = false := by rfl) : ETy X O Γ (.Call (.Name nm pn) (e :: es) [] pos) T := fun σ F0 S H Q g o i q => by
  obtain ⟨f, fd, ds, h1, h2, h3, h4, h5⟩ := F.ex
  refine of_pe (pe_call h5 hr hg h1 h2 h4 h3 pass0 pa_w hd he hpl) (ha σ F0 S H _ g o i fun vs S1 H1 g1 t1 => ?_)
  obtain ⟨x, pre, t2, hle⟩ := hx vs S1 t1
  exact ⟨x, S1, g1.i, by rw [List.append_nil]; exact t2, pre, fun v S' H' g2 t3 => q v S' H' (g1.trans g2) (hle _ _ t3)⟩
theorem bt_ifJ (hc : TTyU X O Γ c) (h1 : BTy X S0 H0 O Γ body { D with nx := Nx S0 H0 O Δ }) (h2 : BTy X S0 H0 O Γ orelse { D with nx := Nx S0 H0 O Δ }) (hr : BTy X S0 H0 O Δ rest D) : BTy X S0 H0 O Γ (.If c body orelse pos :: rest) D := fun σ S H g g1 o =>
  of_pss (pss_cons (ps_if pt_w pss_w pss_w) pss_w) (hc σ H0 S H _ g1 o g.i fun b S1 H1 g2 => by
    have ap : ∀ {t : List Stmt}, BTy X S0 H0 O Γ t { D with nx := Nx S0 H0 O Δ } → wSs X t { D with nx := fun σ H => wSs X rest D σ H } σ H1 := fun {t} h pins s I => by
      refine thn (h σ S1 H1 (g.trans g2) (g1.m g2.s) (o.grow g2) pins s I) fun f s1 q => ?_
      cases f with
      | next =>
        obtain ⟨σ', H', I', S', g', e', o'⟩ := q
        exact ⟨σ', H', I', hr σ' S' H' g' e' o'⟩
      | brk => exact q
      | cont => exact q
      | ret v => exact q
    cases b with
    | true => exact iteT (ap h1)
    | false => exact iteF (ap h2))
/-- an if that leaves, whatever its test -/
theorem bt_lvU (hc : TTyU X O Γ c) (h1 : BTy X S0 H0 O Γ body { D with nx := fun σ H => wSs X rest D σ H }) (h : BTy X S0 H0 O Γ rest D) : BTy X S0 H0 O Γ (.If c body [] pos :: rest) D := fun σ S H g g1 o =>
  of_pss (pss_cons (ps_if pt_w pss_w pss_w) pss_w) (hc σ H0 S H _ g1 o g.i fun b S1 H1 g2 => by
    cases b with
    | true => exact iteT (h1 σ S1 H1 (g.trans g2) (g1.m g2.s) (o.grow g2))
    | false => exact iteF (bt_on h σ S1 H1 (g.trans g2) (g1.m g2.s) (o.grow g2)))
/-- a return that knows what is owned -/
theorem bt_retO (he : ETy X O Γ e R) (hR : ∀ v S H, Grow S0 H0 S H → OwnOk O H0 S H → R.p v S → D.rt v H) : BTy X S0 H0 O Γ (.Return (some e) pos :: rest) D := fun σ S H g g1 o =>
  of_pss (pss_cons (ps_ret pe_w) (pss_w (sts := rest))) (he σ H0 S H _ g1 o g.i fun v S1 H1 g2 t => hR v S1 H1 (g.trans g2) (o.grow g2) t)
theorem All2.set {ts : List Ty} {vs : List V} {S : Hp} (h : All2 ts vs S) {T : Ty} {v : V} (hv : T.p v S) : ∀ n, All2 (ts.set n T) (vs.set n v) S := by
  induction h with
  | nil => intro n; exact .nil
  | cons h1 h2 ih =>
    intro n
    cases n with
    | zero => exact .cons hv h2
    | succ n => exact .cons h1 (ih hv n)
/-- xs[n] = e, xs owned -/
theorem bt_lset {n : Nat} (k : Nat) (hk : O[k]? = some (p, oL ts)) (he : ETy X O Γ e T) (ho : ETy X O Γ o (tV (.ref p))) (hi : ETy X O Γ a (tI (n : Nat))) (hn : n < ts.length) (hr : BTy X S0 H0 (O.set k (p, oL (ts.set n T))) Γ rest D)
    (hs : swapsWithSole [.Subscript o a p2] e pos.line X.env = pure false := by rfl) (hw : swappedStores [.Subscript o a p2] e X.env = pure none := by rfl) (h1 : (assignEach [.Subscript o a p2] X.env).map (·.2) = [assign (.Subscript o a p2) X.env] := by rfl)
    (ha : ∀ v, assign (.Subscript o a p2) X.env v = (do
      let ov ← holding [v] (eval o X.env)
      let iv ← holding [v, ov] (eval a X.env)
      standAt p2
      holding [v, ov, iv] (setItem ov iv v)
      release [v, ov, iv] []) := by intro _; rfl) : BTy X S0 H0 O Γ (.Assign [.Subscript o a p2] e pos :: rest) D := fun σ S H g g1 oo =>
  of_pss (pss_cons (ps_asg pe_w (pg_sub pe_w pe_w set_list ha) hs hw h1) pss_w) (he σ H0 S H _ g1 oo g.i fun w S1 H1 g2 hw => ho σ H0 S1 H1 _ (g1.m g2.s) (oo.grow g2) g2.i fun u S2 H2 g3 hu => hi σ H0 S2 H2 _ ((g1.m g2.s).m g3.s) ((oo.grow g2).grow g3) g3.i fun y S3 H3 g4 hy => by
    have hu : u = .ref p := hu
    have hy : y = .int (n : Nat) := hy
    subst hu hy
    have o3 := ((oo.grow g2).grow g3).grow g4
    obtain ⟨hF, hS, u, h5, vs, h6, h7⟩ := o3.at_ k _ _ hk
    subst h6
    have gg := ((g.trans g2).trans g3).trans g4
    have hl := h7.len
    refine ⟨p, vs, n, n, rfl, rfl, h5, ?_, ?_⟩
    · have e0 : (0:Int) ≤ (n : Nat) := by omega
      have e1 : ((n : Nat) : Int) < vs.length := by omega
      simp [ixN, e0, e1]
    · exact hr σ S3 _ (gg.store hF hS) (((g1.m g2.s).m g3.s).m g4.s) (o3.upd hk ⟨vs.set n w, rfl, h7.set (T.m (g3.s.trans g4.s) hw) n⟩))
/-- xs.append(e), e known by a property -/
theorem bt_appX {α : Type} {f : α → Ty} (k : Nat) {ap cp : Pos} (hk : O[k]? = some (p, oL ts)) (ho : ETy X O Γ o (tV (.ref p))) (he : ETy X O Γ e (tEx f)) (hl : ts.length ≤ 99999) (hr : ∀ x, BTy X S0 H0 (O.set k (p, oL (ts ++ [f x]))) Γ rest D)
    (hs0 : swapsWith (.Call (.Attribute o "append" ap) [e] [] cp) none pos.line X.env = pure false := by rfl) (hbase : attributeBase o "append" X.env (eval o X.env) = eval o X.env := by rfl)
    (hfew : ((backTo cp (starEach (e :: []) X.env)).all (fun x => !x.1) && (backToKw cp (keywordEach [] X.env)).all (fun x => x.1.isSome)
      && decide ((e :: []).length + ([] : List Keyword).length + (if ([] : List Keyword).isEmpty then 0 else 1) < 30)) = true := by rfl)
    (hline : (ap.endLine == cp.line) = true := by rfl) (hs : starEach (e :: []) X.env = (false, eval e X.env) :: starEach [] X.env := by rfl) (hplain : (backTo cp (starEach [] X.env)).any (·.1) = false := by rfl) : BTy X S0 H0 O Γ (.Expr (.Call (.Attribute o "append" ap) [e] [] cp) pos :: rest) D := fun σ S H g g1 oo =>
  of_pss (pss_cons (ps_expr (pe_bm (r := rAppend) PySem.F.plainAttrs_list PySem.F.slot_list_append PySem.F.type_list_append mt_append pe_w (pa_cons pe_w pa_nil hs) hbase hfew hline hs hplain) hs0) pss_w) (ho σ H0 S H _ g1 oo g.i fun v S1 H1 g2 t => by
    have t : v = .ref p := t
    subst t
    have o1 := oo.grow g2
    obtain ⟨_, _, u1, h3, vs1, h4, _⟩ := o1.at_ k _ _ hk
    subst h4
    refine ⟨.inl ⟨rfl, vs1, .inl (.inl h3)⟩, he σ H0 S1 H1 _ (g1.m g2.s) o1 g2.i fun w S2 H2 g3 ⟨x, hw⟩ => ?_⟩
    have o2 := o1.grow g3
    obtain ⟨hF, hS, u2, h5, vs2, h6, h7⟩ := o2.at_ k _ _ hk
    subst h6
    refine ⟨p, vs2, w, rfl, rfl, h5, ?_, ?_⟩
    · rw [← h7.len]
      exact Nat.lt_of_le_of_lt hl (by decide)
    · have gg := (g.trans g2).trans g3
      exact hr x σ S2 _ (gg.store hF hS) ((g1.m g2.s).m g3.s) (o2.upd hk ⟨vs2 ++ [w], rfl, h7.append (.cons hw .nil)⟩))
/-- range with a state -/
theorem bt_forRS {α : Type} {pr pc : Pos} (i m : Nat) (Inv : Nat → α → Prop) (G : α → Env) (OO : α → Owns) (x0 : α) (nd : X.N.Nodup) (hp : PassesOwn (model X.prog X.w) X.A X.env X.xe) (hm : X.mg "range" = none) (hi : ETy X O Γ a (tI m)) (hsz : m ≤ 99999) (i0 : Inv 0 x0) (h0 : EnvLe Γ (G x0)) (o0 : OO x0 = O)
    (hb : ∀ S1 H1, Grow S0 H0 S1 H1 → ∀ n y, n < m → Inv n y → BTy X S1 H0 (OO y) ((G y).set i (some (tI (n : Nat)))) body { D with nx := fun σ H => ∃ z, Inv (n + 1) z ∧ Nx S1 H0 (OO z) (G z) σ H, ct := fun σ H => ∃ z, Inv (n + 1) z ∧ Nx S1 H0 (OO z) (G z) σ H, bk := wSs X rest D })
    (hr : ∀ y, Inv m y → BTy X S0 H0 (OO y) (G y) rest D) (hx : X.N[i]? = some x := by rfl) (hl : Loc X.env.scope x := by first | exact Or.inl rfl | exact Or.inr rfl) (hf : X.fn x = true ∨ X.env.scope.names.lookup x = some .local := by first | exact .inl rfl | exact .inr rfl | assumption)
    (hc : X.calm = true := by rfl) (hg : Gl X "range" := by rfl) (hs1 : starEach [a] X.env = [(false, eval a X.env)] := by rfl) (hs : ∀ x, foldedSetIterable (.Call (.Name "range" pr) [a] [] pc) X.env x = pure x := by intro _; rfl) : BTy X S0 H0 O Γ (.For (.Name x pos') (.Call (.Name "range" pr) [a] [] pc) body [] pos :: rest) D := fun σ S H g0 g1 o =>
  of_pss (pss_cons (ps_for hp hc (pi_range1 hg hm pa_w hs1) (pg_name nd hx hl hf) pss_w hs) pss_w) (at_one hi hs1 σ H0 S H _ g1 o g0.i fun vs S1 H1 g2 h3 => by
    obtain ⟨v, rfl, hv⟩ := all2_1 h3
    have hv : v = .int m := hv
    subst hv
    have gg := g0.trans g2
    refine ⟨m, rfl, by omega, by omega, ?_⟩
    refine for_range (lo := 0) (n := (m : Int).toNat) (fun n σ H => ∃ z, Inv n z ∧ Nx S1 H0 (OO z) (G z) σ H) ⟨x0, i0, S1, gg.forth (.refl g2.i), (g1.m g2.s).le h0, by rw [o0]; exact o.grow g2⟩ (fun n σ H hn ⟨z, iz, S', g', e', o'⟩ => ?_) (fun σ H ⟨z, iz, S', g', e', o'⟩ => ?_)
    · rw [Int.zero_add]
      exact hb S1 H1 gg n z (by simpa using hn) iz _ S' H g' (e'.set i (T := tI (n : Nat)) rfl) o'
    · have iz : Inv m z := iz
      exact (hr z iz).rebase gg σ S' H g' e' o')
end
end K79
set_option Elab.async false
set_option linter.all false
set_option maxRecDepth 100000
/-! KL: the hand: a list that changes from call to call, known by what is always true of it. -/
namespace K79
open PySem L2
open PyProof.Rows (envOfC)
def tAnd (T U : Ty) : Ty := ⟨fun v S => T.p v S ∧ U.p v S, fun e h => ⟨T.m e h.1, U.m e h.2⟩⟩
/-- what is always true of the hand at a -/
def HHp (a c : Addr) (h : Heap) : Prop := ∃ (i r t : Int) (its : List Value) (n : Nat), 0 ≤ i ∧ Vals [.ref c, .int i, .int r, .int t] its ∧ h.get? a = some { cls := .type "list", data := .seq its.toArray n }
def HH (a c : Addr) : HO := .ext (HHp a c)
theorem hh_stay {a c : Addr} : ∀ h1 h2 : Heap, HHp a c h1 → (∀ o, h1.get? a = some o → h2.get? a = some o) → HHp a c h2 := fun h1 h2 ⟨i, r, t, its, n, h, v, e⟩ k => ⟨i, r, t, its, n, h, v, k _ e⟩
/-- the hand -/
def tHand (K : PySem.W.Frag) : Ty := ⟨fun v S => ∃ a c ns, v = .ref a ∧ S a = some (HH a c) ∧ (tLst K (List.map tI ns)).p (.ref c) S, fun e ⟨a, c, ns, h1, h2, h3⟩ => ⟨a, c, ns, h1, e _ _ h2, Ty.m _ e h3⟩⟩
def del (S : Hp) (a : Addr) : Hp := fun b => if b = a then none else S b
theorem del_same {S : Hp} {a : Addr} : del S a a = none := if_pos rfl
theorem del_ne {S : Hp} {a b : Addr} (h : b ≠ a) : del S a b = S b := if_neg h
theorem upd_del {S : Hp} {a : Addr} {o : HO} (h : S a = some o) : upd (del S a) a o = S := by
  funext b
  by_cases hb : b = a
  · rw [hb, upd_same, h]
  · rw [upd_ne hb, del_ne hb]
theorem Grow.wrap {S H S' H' : Hp} {a : Addr} {o u : HO} (g : Grow S H S' H') (h : H' a = some u) (hS : S a = none) (hH : H a = none) : Grow (upd S a o) (upd H a o) (upd S' a o) (upd H' a o) := by
  refine ⟨fun b x e => ?_, fun b x e => ?_, fun b x e => ?_, fun b x e n => ?_⟩
  · by_cases hb : b = a
    · rw [hb, upd_same] at e ⊢; exact e
    · rw [upd_ne hb] at e ⊢; exact g.s _ _ e
  · by_cases hb : b = a
    · rw [hb, upd_same] at e ⊢; exact e
    · rw [upd_ne hb] at e ⊢; exact g.i _ _ e
  · by_cases hb : b = a
    · rw [hb, upd_same] at e ⊢; exact e
    · rw [upd_ne hb] at e ⊢; exact g.h _ _ e
  · by_cases hb : b = a
    · rw [hb, upd_same] at n; cases n
    · rw [upd_ne hb] at e n
      have z := g.f _ _ e n
      unfold Fre at z ⊢
      rw [upd_ne hb]
      exact z
/-- the hand's list, open -/
abbrev oHand (K : PySem.W.Frag) (c : Addr) (ns : List Int) (i r t : Int) : Own := oL [tAnd (tV (.ref c)) (tLst K (ns.map tI)), tI i, tI r, tI t]
/-- how a walk with an open hand ends -/
def eHand (S0 H0 : Hp) (a c : Addr) (R : Ty) : Ends := { nx := fun _ _ => False, rt := fun v H => ∃ S i r t, Grow S0 H0 S H ∧ S a = none ∧ 0 ≤ i ∧ H a = some (.lst [.ref c, .int i, .int r, .int t]) ∧ R.p v S }
section
variable {X : Cx} {S0 H0 : Hp} {D : Ends} {sts : List Stmt} {R : Ty} {m : Int} {n : Nat}
theorem hand_end {K : PySem.W.Frag} {a c : Addr} {ns : List Int} {i r t : Int} (h : 0 ≤ i) : ∀ v S H, Grow S0 H0 S H → OwnOk [(a, oHand K c ns i r t)] H0 S H → R.p v S → (eHand S0 H0 a c R).rt v H := fun v S H g o hr => by
  obtain ⟨_, hS, u, h1, vs, h2, h3⟩ := o.at_ 0 _ _ rfl
  subst h2
  refine ⟨S, i, r, t, g, hS, h, ?_, hr⟩
  cases h3 with
  | cons e1 h3 =>
    cases h3 with
    | cons e2 h3 =>
      cases h3 with
      | cons e3 h3 =>
        cases h3 with
        | cons e4 h3 =>
          cases h3
          have e1 : _ = V.ref c := e1.1
          have e2 : _ = V.int i := e2
          have e3 : _ = V.int r := e3
          have e4 : _ = V.int t := e4
          rw [h1, e1, e2, e3, e4]
theorem bt_hand (hR : RetOk S0 H0 R D.rt) (hb : ∀ a c i r t ns S' H', 0 ≤ i → BTy X S' H' [(a, oHand X.K c ns i r t)] (some (tV (.ref a)) :: some (tI m) :: List.replicate n none) sts (eHand S' H' a c R)) :
    BTy X S0 H0 [] (some (tHand X.K) :: some (tI m) :: List.replicate n none) sts D := fun σ S H g g1 _ pins s I => by
  obtain ⟨v, hv, a, c, ns, rfl, hSa, hc⟩ := g1.at_ 0 _ rfl
  have hHa := g.i _ _ hSa
  obtain ⟨⟨i, r, t, its, k, hi, hvs, ha⟩, _, _⟩ : ObjOk X.prog X.w H s.heap a (.ext (HHp a c)) := I.hok a _ hHa
  have I1 : Inv X pins σ (upd H a (.lst [.ref c, .int i, .int r, .int t])) s := I.write (e := a) (t' := s.toks) (h' := s.heap) (by rw [hHa]; exact True.intro) (.inl rfl) (fun b u _ e => e) ⟨_, ha⟩ ⟨by show 4 ≤ sizeLine; decide, its, k, hvs, ha⟩
  have i0 : Same (del S a) (del H a) := fun b o e => by
    by_cases hb : b = a
    · rw [hb, del_same] at e; cases e
    · rw [del_ne hb] at e ⊢; exact g.i _ _ e
  have i1 : Same (del S a) (upd H a (.lst [.ref c, .int i, .int r, .int t])) := fun b o e => by
    by_cases hb : b = a
    · rw [hb, del_same] at e; cases e
    · rw [del_ne hb] at e; rw [upd_ne hb]; exact g.i _ _ e
  have hc' : (tLst X.K (ns.map tI)).p (.ref c) (del S a) := by
    obtain ⟨c', xs, e1, e2, e3⟩ := hc
    cases e1
    have l : ∀ {ns : List Int} {xs : List V}, All2 (ns.map tI) xs S → All2 (ns.map tI) xs (del S a) := fun {ns xs} h => by rw [all2_ints h]; exact ints_all2 _ _
    refine ⟨c, xs, rfl, ?_, l e3⟩
    rcases e2 with (q | ⟨o, q⟩) | q
    · exact .inl (.inl (by rw [del_ne (fun z => by rw [z, hSa] at q; cases q)]; exact q))
    · exact .inl (.inr ⟨o, by rw [del_ne (fun z => by rw [z, hSa] at q; cases q)]; exact q⟩)
    · exact .inr q
  have hg : Grow (del S a) (del H a) (del S a) (upd H a (.lst [.ref c, .int i, .int r, .int t])) := ⟨Same.refl _, i1, fun b o e => by
    by_cases hb : b = a
    · rw [hb, del_same] at e; cases e
    · rw [del_ne hb] at e; rw [upd_ne hb]; exact e, fun b o e n => by rw [e] at n; cases n⟩
  have env : EnvOk (some (tV (.ref a)) :: some (tI m) :: List.replicate n none) σ (del S a) := ⟨g1.len.trans rfl, fun j U e => by
    match j, e with
    | 0, e =>
      have e : tV (.ref a) = U := by simpa using e
      subst e
      exact ⟨_, hv, rfl⟩
    | 1, e =>
      have e : tI m = U := by simpa using e
      subst e
      obtain ⟨w, e1, e2⟩ := g1.at_ 1 _ rfl
      exact ⟨w, e1, e2⟩
    | j + 2, e =>
      exfalso
      have e : (List.replicate n (none : Option Ty))[j]? = some (some U) := by simpa using e
      rw [List.getElem?_replicate] at e
      split at e <;> cases e⟩
  have own : OwnOk [(a, oHand X.K c ns i r t)] (del H a) (del S a) (upd H a (.lst [.ref c, .int i, .int r, .int t])) := ⟨by simp, fun k b w e => by
    match k, e with
    | 0, e =>
      cases e
      exact ⟨del_same, del_same, _, upd_same, _, rfl, .cons ⟨rfl, hc'⟩ (.cons rfl (.cons rfl (.cons rfl .nil)))⟩
    | k + 1, e => simp at e⟩
  refine thn (hb a c i r t ns (del S a) (del H a) hi σ _ _ hg env own pins s I1) fun f s1 q => ?_
  cases f with
  | next => obtain ⟨_, _, _, z⟩ := q; exact z.elim
  | brk => obtain ⟨_, _, _, z⟩ := q; exact z.elim
  | cont => obtain ⟨_, _, _, z⟩ := q; exact z.elim
  | ret u =>
    obtain ⟨v, σ', H2, I2, rv, S2, i2, r2, t2, g2, n2, hi2, h2, hr⟩ := q
    obtain ⟨_, its2, k2, hv2, ha2⟩ : ObjOk X.prog X.w H2 s1.heap a (.lst [.ref c, .int i2, .int r2, .int t2]) := I2.hok a _ h2
    have I3 : Inv X pins σ' (upd H2 a (HH a c)) s1 := I2.write (e := a) (t' := s1.toks) (h' := s1.heap) (by rw [h2]; exact True.intro) (.inl rfl) (fun b u _ e => e) ⟨_, ha2⟩ ⟨⟨i2, r2, t2, its2, k2, hi2, hv2, ha2⟩, ⟨_, ha2⟩, hh_stay⟩
    have g3 := g2.wrap (o := HH a c) h2 del_same del_same
    rw [upd_del hSa, upd_del hHa] at g3
    exact ⟨v, σ', _, I3, rv, hR v _ _ (g.trans g3) (R.m (same_upd n2) hr)⟩
end
end K79
set_option Elab.async false
set_option linter.all false
set_option maxRecDepth 100000
/-! D18: _law_mixed, _law_take. -/
namespace K79
open PySem L2
open PyProof.Rows (envOfC)
section
variable {P : Program} {w : World} {K : PySem.W.Frag} {mg : Str → Option Value} {base : Heap}
/-! ### _law_mixed -/
def mixA (n k : Int) : Int := (n * 48271 + k * 7919 + 65537) % 2147483647
def mixB (n k : Int) : Int := (mixA n k * mixA n k + k * 104729 + mixA n k / 127) % 2147483629
def mixF (n k : Int) : Int := ((mixB n k * 69621 + mixA n k / 5) % 2147483587) / 16
theorem mixA_le (n k : Int) : 0 ≤ mixA n k ∧ mixA n k < 2147483647 := ⟨Int.emod_nonneg _ (by decide), Int.emod_lt_of_pos _ (by decide)⟩
abbrev spMixed : Sp := spT (α := Int × Int) (fun x => [tI x.1, tI x.2]) (fun _ => True) (fun x => tI (mixF x.1 x.2))
abbrev nMixed : List Str := ["_law_number", "_law_turn", "_law_once", "_law_twice"]
theorem sc_mixed : FnScope nMixed ["_law_number", "_law_turn"] (defScope sLLawMixed) := ⟨rfl, rfl, rfl, by decide +kernel, rfl, by decide +kernel, by decide +kernel⟩
set_option maxHeartbeats 1000000 in
theorem fn_mixed (T : Txt K mg) : Fn P w K mg base "_law_mixed" 1 ["_law_number", "_law_turn"] [] spMixed := by
  have nd : nMixed.Nodup := by decide +kernel
  refine fn_of' T.d__law_mixed (fun kV doc pm an cdv ct us h => match us, h with | [_, _], _ => rfl) sc_mixed (fun _ => rfl) fun f cdv Ar outer s H E x _ hr S D hR _ => ?_
  obtain ⟨n, k⟩ := x
  show BTy _ _ _ _ [some (tI n), some (tI k), none, none] _ _
  have hA := mixA_le n k
  refine bt_set (T := tI (mixA n k)) 2 nd (et_mod (by decide) (et_intI T.f_int (et_add (et_add (et_mul (.inr (by decide)) (et_var 0) et_int) (et_mul (.inr (by decide)) (et_var 1) et_int)) et_int)) et_int) ?_
  refine bt_set (T := tI (mixB n k)) 3 nd (et_mod (by decide) (et_intI T.f_int (et_add (et_add (et_mul (.inr ⟨by omega, by omega⟩) (et_var 2) (et_var 2)) (et_mul (.inr (by decide)) (et_var 1) et_int)) (et_div ⟨by decide, by decide⟩ (et_var 2) et_int))) et_int) ?_
  exact bt_ret (et_div ⟨by decide, by decide⟩ (et_intI T.f_int (et_mod (by decide) (et_intI T.f_int (et_add (et_mul (.inr (by decide)) (et_var 3) et_int) (et_div ⟨by decide, by decide⟩ (et_var 2) et_int))) et_int)) et_int) hR
/-! ### _law_take -/
abbrev tUp (m : Int) : Ty := tIP fun v => 0 ≤ v ∧ v < m
abbrev spTake (K : PySem.W.Frag) : Sp := spT (α := Int) (fun m => [tHand K, tI m]) (fun m => 0 < m ∧ m ≤ 1000) (fun m => tUp m)
abbrev nTake : List Str := ["_law_hand_here", "_law_many", "_law_cell", "_law_rest"]
theorem sc_take : FnScope nTake ["_law_hand_here", "_law_many"] (defScope sLLawTake) := ⟨rfl, rfl, rfl, by decide +kernel, rfl, by decide +kernel, by decide +kernel⟩
theorem up_mod {x m : Int} (h : 0 < m) : (tI (x % m)).le (tUp m) := tIP_of ⟨Int.emod_nonneg _ (by omega), Int.emod_lt_of_pos _ h⟩
theorem mdl {m : Int} (h : 0 < m ∧ m ≤ 1000) : m.natAbs.log2 < 9000 := by
  have : m.natAbs ≤ 1000 := by omega
  refine Nat.lt_of_le_of_lt (Nat.log2_le_self _) (by omega)
set_option maxHeartbeats 2000000 in
theorem fn_take (T : Txt K mg) : Fn P w K mg base "_law_take" 2 ["_law_hand_here", "_law_many"] [] (spTake K) := by
  have nd : nTake.Nodup := by decide +kernel
  refine fn_of' T.d__law_take (fun kV doc pm an cdv ct us h => match us, h with | [_, _], _ => rfl) sc_take (fun _ => rfl) fun f cdv Ar outer s H E m pre hr S D hR _ => ?_
  refine bt_hand (m := m) (n := 2) (R := tUp m) hR fun a c i r t ns S1 H1 hi => ?_
  show BTy _ _ _ _ [some (tV (.ref a)), some (tI m), none, none] _ _
  -- the last two ways
  have last : ∀ i r cl, 0 ≤ i → BTy (Ct P w K mg base nTake "_law_take" sLLawTake f cdv Ar outer s H E) S1 H1 [(a, oHand K c ns i r t)] [some (tV (.ref a)), some (tI m), cl, none] ((defBody sLLawTake).drop 1) (eHand S1 H1 a c (tUp m)) := fun i r cl hi => by
    refine bt_lv (k := decide (0 < r)) (tt_gt (et_ixO (m := 2) 0 rfl (et_var 0) et_int rfl rfl) et_int) (fun _ => ?_) (fun _ => ?_)
    · refine bt_set (T := tI r) 3 nd (et_ixO (m := 2) 0 rfl (et_var 0) et_int rfl rfl) ?_
      refine bt_lset (n := 2) (T := tI (r / m)) 0 rfl (et_div ⟨pre.1, mdl pre⟩ (et_intI T.f_int (et_var 3)) (et_var 1)) (et_var 0) et_int (by show 2 < 4; decide) ?_
      exact bt_retO (et_le (et_mod pre.1 (et_intI T.f_int (et_var 3)) (et_var 1)) (up_mod pre.1)) (hand_end (K := K) (ns := ns) (i := i) (r := r / m) (t := t) hi)
    · refine bt_lset (n := 3) (T := tI ((t + 1) % 2147483629)) 0 rfl (et_mod (by decide) (et_intI T.f_int (et_add (et_ixO (m := 3) 0 rfl (et_var 0) et_int rfl rfl) et_int)) et_int) (et_var 0) et_int (by show 3 < 4; decide) ?_
      refine bt_retO (et_le (et_mod pre.1 (et_intI T.f_int (et_call (x := ((t + 1) % 2147483629, i)) (fn_mixed T) (hr.mono (by decide)) True.intro (at_cons (et_ixO (m := 3) 0 rfl (et_var 0) et_int rfl rfl) (at_one (et_ixO (m := 1) 0 rfl (et_var 0) et_int rfl rfl))))) (et_var 1)) (up_mod pre.1)) (hand_end (K := K) (ns := ns) (i := i) (r := r) (t := (t + 1) % 2147483629) hi)
  have cells : ∀ {Γ i r t pos po pi j}, Γ[0]? = some (some (tV (.ref a))) → ETy (Ct P w K mg base nTake "_law_take" sLLawTake f cdv Ar outer s H E) [(a, oHand K c ns i r t)] Γ (.Subscript (.Name "_law_hand_here" po) (.Constant (.int 0) j pi) pos) (tLst K (ns.map tI)) := fun {Γ i r t pos po pi j} h => et_le (et_ixO (m := 0) 0 rfl (et_var 0 (hg := h)) et_int rfl rfl) fun _ _ z => z.2
  refine bt_lv (k := decide (r = 0) && decide (i < ns.length)) (tt_w (wt_and2 (tt_eq' (et_ixO (m := 2) 0 rfl (et_var 0) et_int rfl rfl) et_int) (fun _ => wt_and1 (tt_lt (et_ixO (m := 1) 0 rfl (et_var 0) et_int rfl rfl) (et_eq (et_lenL T.f_len (cells rfl)) (by rw [List.length_map])))))) (fun h => ?_) (fun _ => last i r none hi)
  rw [Bool.and_eq_true] at h
  have hl : i < ns.length := of_decide_eq_true h.2
  obtain ⟨k, hk⟩ : ∃ k : Nat, i = k := ⟨i.toNat, by omega⟩
  have hkl : k < ns.length := by omega
  refine bt_set (T := tI ns[k]) 2 nd (et_ixL (k := k) (cells rfl) (et_ixO (m := 1) 0 rfl (et_var 0) et_int rfl rfl) hk (map_at (f := tI) (List.getElem?_eq_getElem hkl))) ?_
  refine bt_lset (n := 1) (T := tI (i + 1)) 0 rfl (et_add (et_ixO (m := 1) 0 rfl (et_var 0) et_int rfl rfl) et_int) (et_var 0) et_int (by show 1 < 4; decide) ?_
  refine bt_lv (k := decide (ns[k] < 10 ^ 18)) (tt_lt (et_var 2) (et_eq (et_pow ⟨by decide, by decide, by decide⟩ et_int et_int) rfl)) (fun _ => ?_) (fun _ => ?_)
  · exact bt_retO (et_le (et_mod pre.1 (et_intI T.f_int (et_call (x := (ns[k] % 2147483647, i + 1)) (fn_mixed T) (hr.mono (by decide)) True.intro (at_cons (et_mod (by decide) (et_intI T.f_int (et_var 2)) et_int) (at_one (et_ixO (m := 1) 0 rfl (et_var 0) et_int rfl rfl))))) (et_var 1)) (up_mod pre.1)) (hand_end (K := K) (ns := ns) (i := i + 1) (r := r) (t := t) (by omega))
  · refine bt_lset (n := 2) (T := tI ns[k]) 0 rfl (et_var 2) (et_var 0) et_int (by show 2 < 4; decide) ?_
    refine bt_on ?_
    exact last (i + 1) ns[k] (some (tI ns[k])) (by omega)
end
end K79
set_option Elab.async false
set_option linter.all false
set_option maxRecDepth 100000
/-! D19: _law_hand. -/
namespace K79
open PySem L2
open PyProof.Rows (envOfC)
section
variable {X : Cx} {O : Owns} {Γ : Env} {es : List Expr} {pos : Pos}
/-- [cells, i, r, t] as a hand -/
theorem et_handL {ns : List Int} {i r t : Int} (h : ATy X O Γ es [tLst X.K (ns.map tI), tI i, tI r, tI t]) (hi : 0 ≤ i) : ETy X O Γ (.List es pos) (tHand X.K) := fun σ F S H Q g o i1 q pins s I => by
  have z := (pe_lst (pos := pos) (pa_w (X := X) (es := es))).run pins s σ H (fun y H' => ∃ p c H3 S3, y = .ref p ∧ H' = upd H3 p (.lst [.ref c, .int i, .int r, .int t]) ∧ H3 p = none ∧ Grow S H S3 H3 ∧ (tLst X.K (ns.map tI)).p (.ref c) S3) I (h σ F S H _ g o i1 fun vs S1 H1 g1 t1 => by
    cases t1 with
    | cons e1 t1 =>
      cases t1 with
      | cons e2 t1 =>
        cases t1 with
        | cons e3 t1 =>
          cases t1 with
          | cons e4 t1 =>
            cases t1
            have e2 : _ = V.int i := e2
            have e3 : _ = V.int r := e3
            have e4 : _ = V.int t := e4
            subst e2 e3 e4
            obtain ⟨c, xs, rfl, hc⟩ := e1
            exact ⟨by show 4 ≤ sizeLine; decide, fun p hp => ⟨p, c, H1, S1, rfl, rfl, hp, g1, ⟨c, xs, rfl, hc⟩⟩⟩)
  refine thn z fun u s1 ⟨y, H1, I1, ry, p, c, H3, S3, ey, eH, n3, g3, hc⟩ => ?_
  subst ey eH
  obtain ⟨_, its, k, hv, ha⟩ : ObjOk X.prog X.w _ s1.heap p (.lst [.ref c, .int i, .int r, .int t]) := I1.hok p _ upd_same
  have I2 : Inv X pins σ (upd (upd H3 p (.lst [.ref c, .int i, .int r, .int t])) p (HH p c)) s1 := I1.write (e := p) (t' := s1.toks) (h' := s1.heap) (by rw [upd_same]; exact True.intro) (.inl rfl) (fun b u _ e => e) ⟨_, ha⟩ ⟨⟨i, r, t, its, k, hi, hv, ha⟩, ⟨_, ha⟩, hh_stay⟩
  rw [upd_upd] at I2
  exact ⟨.ref p, _, I2, ry, q (.ref p) (upd S3 p (HH p c)) _ (g3.trans (.new g3.i n3)) ⟨p, c, ns, rfl, upd_same, Ty.m _ (same_upd (g3.i.free n3)) hc⟩⟩
end
section
variable {P : Program} {w : World} {K : PySem.W.Frag} {mg : Str → Option Value} {base : Heap}
def cellF (c : Int) : Int := if 0 ≤ c then c else -c
def totF (t : Int) (ns : List Int) : Int := ns.foldl (fun t c => (t * 1019 + c) % 2147483629) t
abbrev spHand (K : PySem.W.Frag) : Sp := spT (α := List Int) (fun ns => [tLst K (ns.map tI)]) (fun ns => ns.length ≤ 90000) (fun _ => tHand K)
abbrev nHand : List Str := ["_law_script", "_law_total", "_law_cells", "_law_cell"]
theorem sc_hand : FnScope nHand ["_law_script"] (defScope sLLawHand) := ⟨rfl, rfl, rfl, by decide +kernel, rfl, by decide +kernel, by decide +kernel⟩
set_option maxHeartbeats 2000000 in
theorem fn_hand (T : Txt K mg) : Fn P w K mg base "_law_hand" 1 ["_law_script"] [] (spHand K) := by
  have nd : nHand.Nodup := by decide +kernel
  refine fn_of' T.d__law_hand (fun kV doc pm an cdv ct us h => match us, h with | [_], _ => rfl) sc_hand (fun _ => rfl) fun f cdv Ar outer s H E ns pre hr S D hR _ => ?_
  show BTy _ _ _ _ [some (tLst K (ns.map tI)), none, none, none] _ _
  refine bt_set (T := tI ((ns.length : Nat) + 31)) 1 nd (et_add (et_eq (et_lenL T.f_len (et_var 0)) (by rw [List.length_map])) et_int) ?_
  refine bt_newL 2 nd fun p => ?_
  refine bt_forL (ts := ns.map tI) 3 (fun n => [some (tLst K (ns.map tI)), some (tI (totF ((ns.length : Nat) + 31) (ns.take n))), some (tV (.ref p)), none]) (fun n => [(p, oL (((ns.take n).map cellF).map tI))]) nd PassesOwn.never (et_var 0) (.refl _) rfl (fun S1 H1 g n U hU => ?_) ?_
  · rw [List.getElem?_map] at hU
    cases hc : ns[n]? with
    | none => rw [hc] at hU; cases hU
    | some c =>
      rw [hc] at hU
      cases hU
      have e1 : ns.take (n + 1) = ns.take n ++ [c] := by rw [List.take_add_one, hc]; rfl
      have e2 : totF ((ns.length : Nat) + 31) (ns.take (n + 1)) = (totF ((ns.length : Nat) + 31) (ns.take n) * 1019 + c) % 2147483629 := by rw [e1]; unfold totF; rw [List.foldl_append]; rfl
      refine bt_set (T := tI ((totF ((ns.length : Nat) + 31) (ns.take n) * 1019 + c) % 2147483629)) 1 nd (et_mod (by decide) (et_intI T.f_int (et_add (et_mul (.inr (by decide)) (et_var 1) et_int) (et_intI T.f_int (et_var 3)))) et_int) ?_
      refine bt_app (T := tI (cellF c)) 0 rfl (et_var 2) (et_if (k := decide (0 ≤ c)) (tt_ge (et_var 3) et_int) (fun h => et_eq (et_intI T.f_int (et_var 3)) (by unfold cellF; rw [if_pos (of_decide_eq_true h)])) (fun h => et_eq (et_neg (et_intI T.f_int (et_var 3))) (by unfold cellF; rw [if_neg (of_decide_eq_false h)]))) (by rw [List.length_map, List.length_map, List.length_take]; omega) ?_
      refine bt_nil fun σ S H g e o => ⟨S, g, ?_, ?_⟩
      · rw [e2]
        exact e.le (el_eq (el_eq (el_eq (el_no el_nil))))
      · rw [e1, List.map_append, List.map_append]
        exact o
  · rw [List.length_map, List.take_length]
    refine bt_frzL 2 rfl ?_
    exact bt_ret (et_handL (ns := ns.map cellF) (at_cons (et_var 2) (at_cons et_int (at_cons et_int (at_one (et_var 1))))) (by decide)) hR
end
end K79
set_option Elab.async false
set_option linter.all false
set_option maxRecDepth 100000
/-! D20: _law_line, _law_even_grown. -/
namespace K79
open PySem L2
open PyProof.Rows (envOfC)
theorem pos_of_num {q : Rat} (h : 0 < q.num) : 0 < q := by
  rw [Rat.lt_iff]
  simpa using h
/-- a small ratio -/
theorem small {u v : Int} {n : Nat} (h1 : 1 ≤ u) (h2 : 1 ≤ v) (h3 : u.natAbs < 2 ^ n) (h4 : v.natAbs < 2 ^ n) : 0 < Rat.divInt u v ∧ Sz n (Rat.divInt u v) := by
  refine ⟨pos_of_num ?_, divInt_size (by omega) h3 h4⟩
  rw [(divInt_pos (t := u) (b := v) (by omega)).1]
  have hd : ((Nat.gcd u.natAbs v.natAbs : Nat) : Int) ∣ u := Int.ofNat_dvd_left.mpr (Nat.gcd_dvd_left _ _)
  have hg : 0 < Nat.gcd u.natAbs v.natAbs := Nat.gcd_pos_of_pos_left _ (by omega)
  have := Int.le_of_dvd (by omega) hd
  exact Int.ediv_pos_of_pos_of_dvd (by omega) (by omega) hd
section
variable {X : Cx} {S0 H0 : Hp} {O : Owns} {Γ Δ : Env} {D : Ends} {e a b c o : Expr} {es : List Expr} {rest body orelse : List Stmt} {T U R : Ty} {ts : List Ty} {pos pos' p2 : Pos} {x : Str} {i j : Int} {P Q' : Int → Prop} {p : Addr}
/-- a, b = ([], []) -/
theorem bt_par2L {y : Str} {p1 p2 pt q1 q2 : Pos} {kt k2 : Nat} {pt2 : Pos} (i j : Nat) (nd : X.N.Nodup) (hij : i ≠ j) (hr : ∀ p q, BTy X S0 H0 ((q, oL []) :: (p, oL []) :: O) ((Γ.set i (some (tV (.ref p)))).set j (some (tV (.ref q)))) rest D) (hi : X.N[i]? = some x := by rfl) (hj : X.N[j]? = some y := by rfl)
    (hx : X.env.scope.names.lookup x = some .local := by rfl) (hy : X.env.scope.names.lookup y = some .local := by rfl) (hc : X.calm = true := by rfl)
    (hw : swappedStores [.Tuple [.Name x p1, .Name y p2] kt pt] (.Tuple [.List [] q1, .List [] q2] k2 pt2) X.env = pure (some [x, y]) := by rfl) (hs : swapsWithSole [.Tuple [.Name x p1, .Name y p2] kt pt] (.Tuple [.List [] q1, .List [] q2] k2 pt2) pos.line X.env = pure false := by rfl)
    (hs1 : starEach [.List [] q1, .List [] q2] X.env = (false, eval (.List [] q1) X.env) :: starEach [.List [] q2] X.env := by rfl) (hs2 : starEach [.List [] q2] X.env = (false, eval (.List [] q2) X.env) :: starEach [] X.env := by rfl) :
    BTy X S0 H0 O Γ (.Assign [.Tuple [.Name x p1, .Name y p2] kt pt] (.Tuple [.List [] q1, .List [] q2] k2 pt2) pos :: rest) D := fun σ S H g g1 o =>
  of_pss (pss_cons (ps_par hc nd hi hj hij hx hy (pa_cons (pe_lst pa_nil) (pa_cons (pe_lst pa_nil) pa_nil hs2) hs1) hw hs) pss_w) ⟨Nat.zero_le _, fun p hp => ⟨Nat.zero_le _, fun q hq => by
    refine ⟨.ref p, .ref q, rfl, ?_⟩
    have hS : S p = none := g.i.free hp
    have hF : H0 p = none := g.h.free hp
    have hqp : q ≠ p := fun z => by rw [z, upd_same] at hq; cases hq
    have hq0 : H q = none := by rw [upd_ne hqp] at hq; exact hq
    have hSq : S q = none := g.i.free hq0
    have hFq : H0 q = none := g.h.free hq0
    have o1 : OwnOk ((p, oL []) :: O) H0 S _ := o.cons hF hS hp ⟨[], rfl, .nil⟩
    have o2 : OwnOk ((q, oL []) :: (p, oL []) :: O) H0 S _ := o1.cons hFq hSq hq ⟨[], rfl, .nil⟩
    exact hr p q _ S _ ((g.store hF hS).store hFq hSq) ((g1.set i rfl).set j rfl) o2⟩⟩
/-- xs.append(e), e known by a property that is kept -/
theorem bt_appW {α : Type} {f : α → Ty} {P : α → Prop} (k : Nat) {ap cp : Pos} (hk : O[k]? = some (p, oL ts)) (ho : ETy X O Γ o (tV (.ref p))) (he : ETy X O Γ e (tEx fun x => tWhen (f x) (P x))) (hl : ts.length ≤ 99999) (hr : ∀ x, P x → BTy X S0 H0 (O.set k (p, oL (ts ++ [f x]))) Γ rest D)
    (hs0 : swapsWith (.Call (.Attribute o "append" ap) [e] [] cp) none pos.line X.env = pure false := by rfl) (hbase : attributeBase o "append" X.env (eval o X.env) = eval o X.env := by rfl)
    (hfew : ((backTo cp (starEach (e :: []) X.env)).all (fun x => !x.1) && (backToKw cp (keywordEach [] X.env)).all (fun x => x.1.isSome)
      && decide ((e :: []).length + ([] : List Keyword).length + (if ([] : List Keyword).isEmpty then 0 else 1) < 30)) = true := by rfl)
    (hline : (ap.endLine == cp.line) = true := by rfl) (hs : starEach (e :: []) X.env = (false, eval e X.env) :: starEach [] X.env := by rfl) (hplain : (backTo cp (starEach [] X.env)).any (·.1) = false := by rfl) : BTy X S0 H0 O Γ (.Expr (.Call (.Attribute o "append" ap) [e] [] cp) pos :: rest) D := fun σ S H g g1 oo =>
  of_pss (pss_cons (ps_expr (pe_bm (r := rAppend) PySem.F.plainAttrs_list PySem.F.slot_list_append PySem.F.type_list_append mt_append pe_w (pa_cons pe_w pa_nil hs) hbase hfew hline hs hplain) hs0) pss_w) (ho σ H0 S H _ g1 oo g.i fun v S1 H1 g2 t => by
    have t : v = .ref p := t
    subst t
    have o1 := oo.grow g2
    obtain ⟨_, _, u1, h3, vs1, h4, _⟩ := o1.at_ k _ _ hk
    subst h4
    refine ⟨.inl ⟨rfl, vs1, .inl (.inl h3)⟩, he σ H0 S1 H1 _ (g1.m g2.s) o1 g2.i fun w S2 H2 g3 ⟨x, hw, hp⟩ => ?_⟩
    have o2 := o1.grow g3
    obtain ⟨hF, hS, u2, h5, vs2, h6, h7⟩ := o2.at_ k _ _ hk
    subst h6
    refine ⟨p, vs2, w, rfl, rfl, h5, ?_, ?_⟩
    · rw [← h7.len]
      exact Nat.lt_of_le_of_lt hl (by decide)
    · have gg := (g.trans g2).trans g3
      exact hr x hp σ S2 _ (gg.store hF hS) ((g1.m g2.s).m g3.s) (o2.upd hk ⟨vs2 ++ [w], rfl, h7.append (.cons hw .nil)⟩))
end
section
variable {P : Program} {w : World} {K : PySem.W.Frag} {mg : Str → Option Value} {base : Heap}
theorem ratio_hx {A B : Int → Prop} {Q : Rat → Prop} (h : ∀ u v, A u → B v → (0 < v ∧ v.natAbs < 2 ^ 9000) ∧ Q (Rat.divInt u v)) : ∀ vs S, All2 [tIP A, tIP B] vs S → ∃ x : Int × Int, (0 < x.2 ∧ x.2.natAbs < 2 ^ 9000) ∧ All2 [tI x.1, tI x.2] vs S ∧ (tQ K (Rat.divInt x.1 x.2)).le (tQP K Q) := fun vs S z => by
  obtain ⟨x, y, rfl, ⟨u, hu, pu⟩, v, hv, pv⟩ := all2_2 z
  obtain ⟨h1, h2⟩ := h u v pu pv
  exact ⟨(u, v), h1, .cons hu (.cons hv .nil), fun _ _ q => ⟨_, q, h2⟩⟩
theorem plus_hx {m : Rat} {n k : Nat} {A Q : Rat → Prop} (hm : Sz n m) (h : ∀ q, A q → Sz k q ∧ Q (m + q)) (hl : n + k ≤ 9000) : ∀ vs S, All2 [tQ K m, tQP K A] vs S → ∃ x : Rat × Rat, SzOk x.1 x.2 ∧ All2 [tQ K x.1, tQ K x.2] vs S ∧ (tQ K (x.1 + x.2)).le (tQP K Q) := fun vs S z => by
  obtain ⟨x, y, rfl, hx, q, hy, pq⟩ := all2_2 z
  obtain ⟨h1, h2⟩ := h q pq
  exact ⟨(m, q), ⟨n, k, hm, h1, hl⟩, .cons hx (.cons hy .nil), fun _ _ r => ⟨_, r, h2⟩⟩
theorem whole_le {A : Int → Prop} : (tTup K [tIP A, tI 1]).le (tQP K fun q => ∃ v, A v ∧ q = ((v : Int) : Rat)) := fun x S ⟨a, vs, h1, h2, h3⟩ => by
  obtain ⟨y, z, rfl, ⟨v, hv, pv⟩, hz⟩ := all2_2 h3
  exact ⟨((v : Int) : Rat), ⟨a, _, h1, h2, .cons hv (.cons hz .nil)⟩, v, pv, rfl⟩
theorem sz_int {v : Int} {n : Nat} (hn : 0 < n) (h : v.natAbs < 2 ^ n) : Sz n ((v : Int) : Rat) := by
  refine ⟨by simpa using h, ?_⟩
  rw [Rat.den_intCast]
  calc 1 < 2 ^ 1 := by decide
    _ ≤ 2 ^ n := Nat.pow_le_pow_right (by decide) hn
/-- a line that the hand makes, of n pieces -/
def LnH (n : Nat) (L : Ln) : Prop := LnOk 34 L ∧ L.ls.length = n
abbrev tLnH (K : PySem.W.Frag) (n : Nat) : Ty := tEx fun L => tWhen (tLn K L) (LnH n L)
theorem even_ok {n : Nat} (h1 : 1 ≤ n) (h8 : n ≤ 8) : LnH n (even n) := by
  refine ⟨⟨by simp [even], by simpa [even] using h1, by simp [even]; omega, fun q hq => ?_, ?_, fun q hq => ?_, fun q hq => ?_⟩, by simp [even]⟩
  · obtain ⟨_, _, rfl⟩ := List.mem_map.mp (show q ∈ (List.range n).map fun _ => 1 from hq)
    decide
  · show ((List.range n).map fun k => ((k : Nat) : Rat)).Pairwise (· < ·)
    rw [List.pairwise_map]
    exact List.pairwise_lt_range.imp fun {a b} z => Rat.natCast_lt_natCast.mpr z
  · obtain ⟨_, _, rfl⟩ := List.mem_map.mp (show q ∈ (List.range n).map fun _ => 1 from hq)
    exact Sz.one.mono (by decide)
  · obtain ⟨k, hk, rfl⟩ := List.mem_map.mp (show q ∈ (List.range n).map fun k => ((k : Nat) : Rat) from hq)
    have : k < n := List.mem_range.mp hk
    refine (sz_int (v := (k : Int)) (n := 4) (by decide) ?_).mono (by decide)
    show k < 16
    omega
/-! ### _law_line -/
abbrev spLLine (K : PySem.W.Frag) : Sp := spT (α := Nat) (fun n => [tHand K, tI n]) (fun n => 1 ≤ n ∧ n ≤ 8) (fun n => tLnH K n)
abbrev nLLine : List Str := ["_law_hand_here", "_law_count", "_law_share", "_law_lengths", "_law_marks", "_law_mark", "_law_k"]
theorem sc_lline : FnScope nLLine ["_law_hand_here", "_law_count"] (defScope sLLawLine) := ⟨rfl, rfl, rfl, by decide +kernel, rfl, by decide +kernel, by decide +kernel⟩
structure LiI (n : Nat) (y : List Rat × List Rat × Rat) : Prop where
  l1 : y.1.length = n
  l2 : y.2.1.length = n
  ps : ∀ q ∈ y.1, 0 < q ∧ Sz 4 q
  up : y.2.1.Pairwise (· < ·)
  lo : ∀ q ∈ y.2.1, q < y.2.2
  zs : ∀ q ∈ y.2.1, Sz (2 + 4 * n) q
  zm : Sz (2 + 4 * n) y.2.2
theorem LiI.init {m : Rat} (h : Sz 2 m) : LiI 0 ([], [], m) := ⟨rfl, rfl, (fun _ z => nomatch z), List.Pairwise.nil, (fun _ z => nomatch z), (fun _ z => nomatch z), h⟩
theorem tLnH_le {n : Nat} {L : Ln} (h : LnH n L) : (tLn K L).le (tLnH K n) := fun _ _ z => ⟨L, z, h⟩
theorem LiI.step {n : Nat} {ls ms : List Rat} {m q q' : Rat} (h : LiI n (ls, ms, m)) (h1 : 0 < q ∧ Sz 4 q) (h2 : m < q' ∧ Sz (2 + 4 * (n + 1)) q') : LiI (n + 1) (ls ++ [q], ms ++ [m], q') := by
  refine ⟨by simp [h.l1], by simp [h.l2], fun x hx => ?_, ?_, fun x hx => ?_, fun x hx => ?_, h2.2⟩
  · rcases List.mem_append.mp hx with z | z
    · exact h.ps x z
    · rw [List.mem_singleton.mp z]; exact h1
  · show (ms ++ [m]).Pairwise (· < ·)
    rw [List.pairwise_append]
    exact ⟨h.up, List.pairwise_singleton _ _, fun a ha b hb => by rw [List.mem_singleton.mp hb]; exact h.lo a ha⟩
  · rcases List.mem_append.mp hx with z | z
    · have a := h.lo x z
      have b := h2.1
      show x < q'
      have a : x < m := a
      grind
    · rw [List.mem_singleton.mp z]; exact h2.1
  · rcases List.mem_append.mp hx with z | z
    · exact (h.zs x z).mono (by omega)
    · rw [List.mem_singleton.mp z]; exact h.zm.mono (by show 2 + 4 * n ≤ _; omega)
theorem LiI.ok {n : Nat} {y : List Rat × List Rat × Rat} (h : LiI n y) (h1 : 1 ≤ n) (h8 : n ≤ 8) : LnH n ⟨y.1, y.2.1⟩ :=
  ⟨⟨h.l1.trans h.l2.symm, by show 1 ≤ y.1.length; rw [h.l1]; exact h1, by show y.1.length ≤ 24; rw [h.l1]; omega, fun q z => (h.ps q z).1, h.up, fun q z => (h.ps q z).2.mono (by decide), fun q z => (h.zs q z).mono (by omega)⟩, h.l1⟩
set_option maxHeartbeats 2000000 in
theorem fn_lline (T : Txt K mg) : Fn P w K mg base "_law_line" 4 ["_law_hand_here", "_law_count"] [] (spLLine K) := by
  have nd : nLLine.Nodup := by decide +kernel
  refine fn_of' T.d__law_line (fun kV doc pm an cdv ct us h => match us, h with | [_, _], _ => rfl) sc_lline (fun _ => rfl) fun f cdv Ar outer s H E n pre hr S D hR _ => ?_
  obtain ⟨h1, h8⟩ : 1 ≤ n ∧ n ≤ 8 := pre
  show BTy _ _ _ _ [some (tHand K), some (tI n), none, none, none, none, none] _ _
  refine bt_lvU (ttu_eqP (et_call (x := 3) (fn_take T) (hr.mono (by decide)) ⟨by decide, by decide⟩ (at_cons (et_var 0) (at_one et_int))) et_int) ?_ ?_
  · exact bt_ret (et_le (et_call (x := n) (fn_leven T) (hr.mono (by decide)) (show n ≤ 99 by omega) (at_one (et_var 1))) (tLnH_le (even_ok h1 h8))) hR
  refine bt_set (T := tIP fun v => 1 ≤ v ∧ v ≤ 2) 2 nd (et_addP (P := fun v => 0 ≤ v ∧ v < 2) et_int (et_call (x := 2) (fn_take T) (hr.mono (by decide)) ⟨by decide, by decide⟩ (at_cons (et_var 0) (at_one et_int))) (fun v z => ⟨by omega, by omega⟩)) ?_
  refine bt_ex 2 rfl fun sh => ?_
  refine bt_when 2 rfl fun hsh => ?_
  refine bt_par2L 3 4 nd (by decide) fun pl pm => ?_
  refine bt_set (T := tQP K fun q => Sz 2 q) 5 nd (et_le (et_tup (at_cons (et_subP (P := fun v => 0 ≤ v ∧ v < 5) (Q' := fun v => -2 ≤ v ∧ v ≤ 2) (et_call (x := 5) (fn_take T) (hr.mono (by decide)) ⟨by decide, by decide⟩ (at_cons (et_var 0) (at_one et_int))) et_int (fun v z => ⟨by omega, by omega⟩)) (at_one et_int))) fun v S z => ?_) ?_
  · obtain ⟨q, h, u, hu, rfl⟩ := whole_le _ _ z
    exact ⟨_, h, sz_int (by decide) (by show u.natAbs < 4; omega)⟩
  refine bt_ex 5 rfl fun m0 => ?_
  refine bt_when 5 rfl fun hm0 => ?_
  refine bt_forRS (α := List Rat × List Rat × Rat) 6 n LiI (fun y => [some (tHand K), some (tI n), some (tI sh), some (tV (.ref pl)), some (tV (.ref pm)), some (tQ K y.2.2), none]) (fun y => [(pm, oL (y.2.1.map (tQ K))), (pl, oL (y.1.map (tQ K)))]) ([], [], m0) nd PassesOwn.never T.f_range (et_var 1) (by omega) (LiI.init hm0) (.refl _) rfl (fun S1 H1 g k y hk iy => ?_) (fun y iy => ?_)
  · obtain ⟨ls, ms, m⟩ := y
    refine bt_appW (α := Rat) (f := tQ K) (P := fun q => 0 < q ∧ Sz 4 q) 1 rfl (et_var 3) (et_callX (fn_lratio T) (hr.mono (by decide)) (at_cons (et_addP (P := fun v => 0 ≤ v ∧ v < 4 * sh) (Q' := fun v => 1 ≤ v ∧ v ≤ 8) et_int (et_call (x := 4 * sh) (fn_take T) (hr.mono (by decide)) ⟨by omega, by omega⟩ (at_cons (et_var 0) (at_one (et_mul (.inl (by decide)) et_int (et_var 2))))) (fun v z => ⟨by omega, by omega⟩)) (at_one (et_le (et_var 2) (tIP_of (P := fun v => 1 ≤ v ∧ v ≤ 2) hsh)))) (ratio_hx fun u v hu hv => ⟨⟨by omega, Nat.lt_of_lt_of_le (show v.natAbs < 2 ^ 4 by omega) (Nat.pow_le_pow_right (by decide) (by decide))⟩, small (n := 4) (by omega) (by omega) (by omega) (by omega)⟩)) (by rw [List.length_map, iy.l1]; omega) fun q hq => ?_
    refine bt_app (T := tQ K m) 0 rfl (et_var 4) (et_var 5) (by rw [List.length_map, iy.l2]; omega) ?_
    refine bt_set (T := tQP K fun q => m < q ∧ Sz (2 + 4 * (k + 1)) q) 5 nd (et_callX (fn_lplus T) (hr.mono (by decide)) (at_cons (et_var 5) (at_one (et_callX (T := tQP K fun q => 0 < q ∧ Sz 3 q) (fn_lratio T) (hr.mono (by decide)) (at_cons (et_addP (P := fun v => 0 ≤ v ∧ v < 4) (Q' := fun v => 1 ≤ v ∧ v ≤ 4) et_int (et_call (x := 4) (fn_take T) (hr.mono (by decide)) ⟨by decide, by decide⟩ (at_cons (et_var 0) (at_one et_int))) (fun v z => ⟨by omega, by omega⟩)) (at_one (et_addP (P := fun v => 0 ≤ v ∧ v < 2) (Q' := fun v => 1 ≤ v ∧ v ≤ 2) et_int (et_call (x := 2) (fn_take T) (hr.mono (by decide)) ⟨by decide, by decide⟩ (at_cons (et_var 0) (at_one et_int))) (fun v z => ⟨by omega, by omega⟩)))) (ratio_hx fun u v hu hv => ⟨⟨by omega, Nat.lt_of_lt_of_le (show v.natAbs < 2 ^ 4 by omega) (Nat.pow_le_pow_right (by decide) (by decide))⟩, small (n := 3) (by omega) (by omega) (by omega) (by omega)⟩)))) (plus_hx (k := 3) iy.zm (fun q z => ⟨z.2, by have := z.1; grind, (iy.zm.add z.2).mono (by omega)⟩) (by omega))) ?_
    refine bt_ex 5 rfl fun q' => ?_
    refine bt_when 5 rfl fun hq' => ?_
    refine bt_nil fun σ S H g e o => ⟨(ls ++ [q], ms ++ [m], q'), iy.step hq hq', S, g, e.le (el_eq (el_eq (el_eq (el_eq (el_eq (el_eq (el_no el_nil))))))), ?_⟩
    show OwnOk [(pm, oL ((ms ++ [m]).map (tQ K))), (pl, oL ((ls ++ [q]).map (tQ K)))] _ _ _
    rw [List.map_append, List.map_append]
    exact o
  · refine bt_frzL 4 rfl ?_
    refine bt_frzL 3 rfl ?_
    exact bt_ret (et_le (et_tup (at_cons (et_tuple' T.f_tuple (et_var 3)) (at_one (et_tuple' T.f_tuple (et_var 4))))) (tLnH_le (L := ⟨y.1, y.2.1⟩) (iy.ok h1 h8))) hR
/-! ### _law_even_grown -/
abbrev spLEvenG (K : PySem.W.Frag) : Sp := spT (α := Nat) (fun n => [tHand K, tI n]) (fun n => 1 ≤ n ∧ n ≤ 8) (fun n => tLnH K n)
abbrev nLEvenG : List Str := ["_law_hand_here", "_law_count", "_law_line_here", "_law_size", "_law_step", "_law_one"]
theorem sc_levenG : FnScope nLEvenG ["_law_hand_here", "_law_count"] (defScope sLLawEvenGrown) := ⟨rfl, rfl, rfl, by decide +kernel, rfl, by decide +kernel, by decide +kernel⟩
theorem even_grown {n : Nat} (h1 : 1 ≤ n) (h8 : n ≤ 8) {z t : Rat} (hz : 0 < z ∧ Sz 3 z) (ht : Sz 3 t) : LnH n ⟨(even n).ls.map fun _ => z, (even n).ms.map fun q => q * z + t⟩ := by
  have he := even_ok h1 h8
  refine ⟨⟨by simp [even], by simpa [even] using h1, by simp [even]; omega, fun q hq => ?_, ?_, fun q hq => ?_, fun q hq => ?_⟩, by simp [even]⟩
  · obtain ⟨_, _, rfl⟩ := List.mem_map.mp (show q ∈ (even n).ls.map fun _ => z from hq)
    exact hz.1
  · show ((even n).ms.map fun q => q * z + t).Pairwise (· < ·)
    rw [List.pairwise_map]
    refine he.1.up.imp fun {a b} l => ?_
    have := Rat.mul_lt_mul_of_pos_right l hz.1
    grind
  · obtain ⟨_, _, rfl⟩ := List.mem_map.mp (show q ∈ (even n).ls.map fun _ => z from hq)
    exact hz.2.mono (by decide)
  · obtain ⟨r, hr, rfl⟩ := List.mem_map.mp (show q ∈ (even n).ms.map fun q => q * z + t from hq)
    obtain ⟨k, hk, rfl⟩ := List.mem_map.mp (show r ∈ (List.range n).map fun k => ((k : Nat) : Rat) from hr)
    have : k < n := List.mem_range.mp hk
    exact (((sz_int (v := (k : Int)) (n := 4) (by decide) (by show k < 16; omega)).mul hz.2).add ht).mono (by decide)
set_option maxHeartbeats 2000000 in
theorem fn_levenG (T : Txt K mg) : Fn P w K mg base "_law_even_grown" 4 ["_law_hand_here", "_law_count"] [] (spLEvenG K) := by
  have nd : nLEvenG.Nodup := by decide +kernel
  refine fn_of' T.d__law_even_grown (fun kV doc pm an cdv ct us h => match us, h with | [_, _], _ => rfl) sc_levenG (fun _ => rfl) fun f cdv Ar outer s H E n pre hr S D hR _ => ?_
  obtain ⟨h1, h8⟩ : 1 ≤ n ∧ n ≤ 8 := pre
  show BTy _ _ _ _ [some (tHand K), some (tI n), none, none, none, none] _ _
  have he := even_ok h1 h8
  refine bt_set (T := tLn K (even n)) 2 nd (et_call (x := n) (fn_leven T) (hr.mono (by decide)) (show n ≤ 99 by omega) (at_one (et_var 1))) ?_
  refine bt_lvU (ttu_eqP (et_call (x := 2) (fn_take T) (hr.mono (by decide)) ⟨by decide, by decide⟩ (at_cons (et_var 0) (at_one et_int))) et_int) ?_ ?_
  · exact bt_ret (et_le (et_var 2) (tLnH_le he)) hR
  refine bt_set (T := tQP K fun q => 0 < q ∧ Sz 3 q) 3 nd (et_callX (T := tQP K fun q => 0 < q ∧ Sz 3 q) (fn_lratio T) (hr.mono (by decide)) (at_cons (et_addP (P := fun v => 0 ≤ v ∧ v < 5) (Q' := fun v => 1 ≤ v ∧ v ≤ 5) et_int (et_call (x := 5) (fn_take T) (hr.mono (by decide)) ⟨by decide, by decide⟩ (at_cons (et_var 0) (at_one et_int))) (fun v z => ⟨by omega, by omega⟩)) (at_one (et_addP (P := fun v => 0 ≤ v ∧ v < 3) (Q' := fun v => 1 ≤ v ∧ v ≤ 3) et_int (et_call (x := 3) (fn_take T) (hr.mono (by decide)) ⟨by decide, by decide⟩ (at_cons (et_var 0) (at_one et_int))) (fun v z => ⟨by omega, by omega⟩)))) (ratio_hx fun u v hu hv => ⟨⟨by omega, Nat.lt_of_lt_of_le (show v.natAbs < 2 ^ 4 by omega) (Nat.pow_le_pow_right (by decide) (by decide))⟩, small (n := 3) (by omega) (by omega) (by omega) (by omega)⟩)) ?_
  refine bt_ex 3 rfl fun z => ?_
  refine bt_when 3 rfl fun hz => ?_
  refine bt_set (T := tQP K fun q => Sz 3 q) 4 nd (et_callX (T := tQP K fun q => Sz 3 q) (fn_lratio T) (hr.mono (by decide)) (at_cons (et_subP (P := fun v => 0 ≤ v ∧ v < 9) (Q' := fun v => -4 ≤ v ∧ v ≤ 4) (et_call (x := 9) (fn_take T) (hr.mono (by decide)) ⟨by decide, by decide⟩ (at_cons (et_var 0) (at_one et_int))) et_int (fun v z => ⟨by omega, by omega⟩)) (at_one (et_addP (P := fun v => 0 ≤ v ∧ v < 2) (Q' := fun v => 1 ≤ v ∧ v ≤ 2) et_int (et_call (x := 2) (fn_take T) (hr.mono (by decide)) ⟨by decide, by decide⟩ (at_cons (et_var 0) (at_one et_int))) (fun v z => ⟨by omega, by omega⟩)))) (ratio_hx fun u v hu hv => ⟨⟨by omega, Nat.lt_of_lt_of_le (show v.natAbs < 2 ^ 4 by omega) (Nat.pow_le_pow_right (by decide) (by decide))⟩, divInt_size (n := 3) (by omega) (by omega) (by omega)⟩)) ?_
  refine bt_ex 4 rfl fun t => ?_
  refine bt_when 4 rfl fun ht => ?_
  have hb : ∀ y ∈ (even n).ms, Sz 34 y := he.1.zm
  have hl : (even n).ls.length = n := he.2
  have hm : (even n).ms.length = n := he.1.len.symm.trans hl
  refine bt_ret (et_le (et_tup (at_cons (et_tuple' T.f_tuple (et_eq (et_lcT (x := "_law_one") (k := 5) ⟨nd, blkOk_by (own := [("_law_one", 5)]) (N := nLEvenG) (sc := defScope sLLawEvenGrown) (by decide +kernel), rfl, rfl⟩ (even n).ls (tQ K) (fun _ => tQ K z) (fun _ => true) (et_ixT (T := tQs K (even n).ls) (k := 0) (et_var 2) et_int rfl rfl) (by omega) (fun y _ => ifs_nil) (fun y hy _ s0 H0 C cl fp => et_var 3)) (congrArg (tLst K) (map_map_ty (f := tQ K) (g := fun _ => z) (even n).ls)))) (at_one (et_tuple' T.f_tuple (et_eq (et_lcT (x := "_law_one") (k := 5) ⟨nd, blkOk_by (own := [("_law_one", 5)]) (N := nLEvenG) (sc := defScope sLLawEvenGrown) (by decide +kernel), rfl, rfl⟩ (even n).ms (tQ K) (fun q => tQ K (q * z + t)) (fun _ => true) (et_ixT (T := tQs K (even n).ms) (k := 1) (et_var 2) et_int rfl rfl) (by omega) (fun y _ => ifs_nil) (fun y hy _ s0 H0 C cl fp => et_call (x := (y * z, t)) (fn_lplus T) (hr.mono (by decide)) ⟨37, 3, (hb y hy).mul hz.2, ht, by decide⟩ (at_cons (et_call (x := (y, z)) (fn_ltimes T) (hr.mono (by decide)) ⟨34, 3, hb y hy, hz.2, by decide⟩ (at_cons (et_var 5) (at_one (et_var 3)))) (at_one (et_var 4))))) (congrArg (tLst K) (map_map_ty (f := tQ K) (g := fun q => q * z + t) (even n).ms))))))) (tLnH_le (even_grown h1 h8 hz ht))) hR
end
end K79
set_option Elab.async false
set_option linter.all false
/-! M3: noises as sums over three lists; shifts, growths, the way back; orders and crossings. Plain Lean. -/
namespace K79
/-- the sum of l * s * t -/
def dot : List Rat → List Int → List Rat → Rat
  | l :: ls, x :: s, y :: t => l * (x : Int) * y + dot ls s t
  | _, _, _ => 0
theorem sumQ_foldl (l : List Rat) : ∀ a : Rat, l.foldl (· + ·) a = a + sumQ l := by
  unfold sumQ
  induction l with
  | nil => intro a; simp [Rat.add_zero]
  | cons b l ih =>
    intro a
    rw [List.foldl_cons, List.foldl_cons, ih, ih (0 + b)]
    grind
theorem sumQ_cons (a : Rat) (l : List Rat) : sumQ (a :: l) = a + sumQ l := by
  unfold sumQ
  rw [List.foldl_cons, sumQ_foldl]
  unfold sumQ
  grind
theorem noise_dot : ∀ (ls : List Rat) (s : List Int) (t : List Rat), ls.length = s.length → t.length = s.length → noise ls s t = dot ls s t
  | [], [], [], _, _ => by simp [noise, trms, dot, sumQ]
  | l :: ls, x :: s, y :: t, h1, h2 => by
    have ih := noise_dot ls s t (by simpa using h1) (by simpa using h2)
    unfold noise trms at ih ⊢
    rw [List.length_cons, List.range_succ_eq_map, List.map_cons, sumQ_cons, List.map_map]
    show trm (l :: ls) (x :: s) (y :: t) 0 + sumQ ((List.range s.length).map (trm (l :: ls) (x :: s) (y :: t) ∘ Nat.succ)) = _
    have e : (trm (l :: ls) (x :: s) (y :: t) ∘ Nat.succ) = trm ls s t := by
      funext n
      simp [trm]
    rw [e, ih]
    simp [trm, dot]
  | [], _ :: _, _, h, _ => by simp at h
  | _ :: _, [], _, h, _ => by simp at h
  | _, [], _ :: _, _, h => by simp at h
  | _, _ :: _, [], _, h => by simp at h
/-- the linear form f -> sum of l * s * f(m) -/
def lin (L : Ln) (s : List Int) (f : Rat → Rat) : Rat := dot L.ls s (L.ms.map f)
structure Fits (L : Ln) (s : List Int) : Prop where
  a : L.ls.length = s.length
  b : L.ms.length = s.length
theorem nz_lin {L : Ln} {s : List Int} (h : Fits L s) (p : Nat) : nz L s p = lin L s (· ^ p) := noise_dot _ _ _ h.a (by unfold hum; rw [List.length_map, h.b])
theorem dot_add : ∀ (ls : List Rat) (s : List Int) (ms : List Rat) (f g : Rat → Rat), dot ls s (ms.map fun m => f m + g m) = dot ls s (ms.map f) + dot ls s (ms.map g)
  | [], _, _, _, _ => by simp [dot]; grind
  | _ :: _, [], _, _, _ => by simp [dot]; grind
  | _ :: _, _ :: _, [], _, _ => by simp [dot]; grind
  | l :: ls, x :: s, y :: t, f, g => by
    simp only [List.map_cons, dot]
    rw [dot_add ls s t f g]
    grind
theorem dot_mul : ∀ (ls : List Rat) (s : List Int) (ms : List Rat) (c : Rat) (f : Rat → Rat), dot ls s (ms.map fun m => c * f m) = c * dot ls s (ms.map f)
  | [], _, _, _, _ => by simp [dot]
  | _ :: _, [], _, _, _ => by simp [dot]
  | _ :: _, _ :: _, [], _, _ => by simp [dot]
  | l :: ls, x :: s, y :: t, c, f => by
    simp only [List.map_cons, dot]
    rw [dot_mul ls s t c f]
    grind
theorem lin_add (L : Ln) (s : List Int) (f g : Rat → Rat) : lin L s (fun m => f m + g m) = lin L s f + lin L s g := dot_add ..
theorem lin_mul (L : Ln) (s : List Int) (c : Rat) (f : Rat → Rat) : lin L s (fun m => c * f m) = c * lin L s f := dot_mul ..
/-- quiet through the first d powers -/
def Quiet (L : Ln) (s : List Int) (d : Nat) : Prop := ∀ p, p < d → nz L s p = 0
theorem quiet_shift1 {L : Ln} {s : List Int} (h : Fits L s) {d : Nat} (q : Quiet L s d) (t : Rat) : ∀ j k, j + k < d → lin L s (fun m => (m + t) ^ j * m ^ k) = 0
  | 0, k, hk => by
    have e : (fun m : Rat => (m + t) ^ 0 * m ^ k) = fun m => m ^ k := by
      funext m
      rw [Rat.pow_zero, Rat.one_mul]
    rw [e, ← nz_lin h]
    exact q k (by omega)
  | j + 1, k, hk => by
    have e : (fun m : Rat => (m + t) ^ (j + 1) * m ^ k) = fun m => (m + t) ^ j * m ^ (k + 1) + t * ((m + t) ^ j * m ^ k) := by
      funext m
      rw [Rat.pow_succ, Rat.pow_succ]
      grind
    rw [e, lin_add, lin_mul, quiet_shift1 h q t j (k + 1) (by omega), quiet_shift1 h q t j k (by omega)]
    grind
theorem fits_shift {L : Ln} {s : List Int} (h : Fits L s) (t : Rat) : Fits (L.shift t) s := ⟨h.a, by show (L.ms.map (· + t)).length = _; rw [List.length_map, h.b]⟩
theorem quiet_shift {L : Ln} {s : List Int} (h : Fits L s) {d : Nat} (q : Quiet L s d) (t : Rat) : Quiet (L.shift t) s d := fun p hp => by
  have := quiet_shift1 h q t p 0 (by omega)
  rw [nz_lin (fits_shift h t)]
  show dot L.ls s ((L.ms.map (· + t)).map (· ^ p)) = 0
  rw [List.map_map]
  have e : (fun m : Rat => (m + t) ^ p * m ^ 0) = (· ^ p) ∘ (· + t) := by
    funext m
    rw [Rat.pow_zero, Rat.mul_one]
    rfl
  rw [e] at this
  exact this
theorem shift_back (L : Ln) (t : Rat) : (L.shift t).shift (-t) = L := by
  unfold Ln.shift
  simp only [List.map_map]
  have e : ((fun x : Rat => x + -t) ∘ fun x => x + t) = id := by
    funext m
    show m + t + -t = m
    grind
  rw [e, List.map_id]
theorem quiet_shift_iff {L : Ln} {s : List Int} (h : Fits L s) {d : Nat} (t : Rat) : Quiet (L.shift t) s d ↔ Quiet L s d := ⟨fun q => by
  have := quiet_shift (fits_shift h t) q (-t)
  rwa [shift_back] at this, fun q => quiet_shift h q t⟩
theorem dot_grow (z : Rat) (g f : Rat → Rat) (c : Rat) (hg : ∀ m, f (m * z) = c * g m) : ∀ (ls : List Rat) (s : List Int) (ms : List Rat), dot (ls.map (· * z)) s ((ms.map (· * z)).map f) = z * c * dot ls s (ms.map g)
  | [], _, _ => by simp [dot]
  | _ :: _, [], _ => by simp [dot]
  | _ :: _, _ :: _, [] => by simp [dot]
  | l :: ls, x :: s, y :: t => by
    simp only [List.map_cons, dot]
    rw [dot_grow z g f c hg ls s t, hg]
    grind
theorem mul_powQ (a b : Rat) : ∀ n : Nat, (a * b) ^ n = b ^ n * a ^ n
  | 0 => by simp [Rat.pow_zero]
  | n + 1 => by
    rw [Rat.pow_succ, Rat.pow_succ, Rat.pow_succ, mul_powQ a b n]
    grind
theorem nz_grow {L : Ln} {s : List Int} (h : Fits L s) (z : Rat) (p : Nat) : nz (L.grow z) s p = z * z ^ p * nz L s p := by
  have h2 : Fits (L.grow z) s := ⟨by show (L.ls.map (· * z)).length = _; rw [List.length_map, h.a], by show (L.ms.map (· * z)).length = _; rw [List.length_map, h.b]⟩
  rw [nz_lin h2, nz_lin h]
  exact dot_grow z (· ^ p) (· ^ p) (z ^ p) (fun m => mul_powQ m z p) L.ls s L.ms
theorem pow_ne {z : Rat} (h : z ≠ 0) : ∀ p : Nat, z ^ p ≠ 0
  | 0 => by rw [Rat.pow_zero]; decide
  | p + 1 => by
    rw [Rat.pow_succ]
    have := pow_ne h p
    grind
theorem quiet_grow_iff {L : Ln} {s : List Int} (h : Fits L s) {d : Nat} {z : Rat} (hz : 0 < z) : Quiet (L.grow z) s d ↔ Quiet L s d := by
  have hz0 : z ≠ 0 := by grind
  constructor
  · intro q p hp
    have := q p hp
    rw [nz_grow h] at this
    have h2 := pow_ne hz0 p
    grind
  · intro q p hp
    rw [nz_grow h, q p hp]
    grind
end K79
set_option Elab.async false
set_option linter.all false
/-! M4: an order is at most the number of crossings; the way back. Plain Lean. -/
namespace K79
/-- crossings, by recursion -/
def pc : List Int → Nat
  | a :: b :: t => (if b = a then 0 else 1) + pc (b :: t)
  | _ => 0
theorem poles_pc : ∀ s : List Int, (poles s).length = pc s
  | [] => rfl
  | [_] => rfl
  | a :: b :: t => by
    have ih := poles_pc (b :: t)
    unfold poles polesN at ih ⊢
    rw [List.length_map] at ih ⊢
    show ((List.range (t.length + 1 + 1 - 1)).filter _).length = _
    rw [show t.length + 1 + 1 - 1 = (t.length) + 1 by omega, List.range_succ_eq_map, List.filter_cons, List.filter_map]
    have e : ((fun j => decide ((a :: b :: t).getD (1 + j) 0 ≠ (a :: b :: t).getD j 0)) ∘ Nat.succ) = fun j => decide ((b :: t).getD (1 + j) 0 ≠ (b :: t).getD j 0) := by
      funext j
      show decide ((a :: b :: t).getD (1 + (j + 1)) 0 ≠ (a :: b :: t).getD (j + 1) 0) = _
      rw [show 1 + (j + 1) = (1 + j) + 1 by omega, List.getD_cons_succ, List.getD_cons_succ]
    rw [e]
    have ih : ((List.range t.length).filter fun j => decide ((b :: t).getD (1 + j) 0 ≠ (b :: t).getD j 0)).length = pc (b :: t) := ih
    show (if decide ((a :: b :: t).getD (1 + 0) 0 ≠ (a :: b :: t).getD 0 0) = true then _ else _ : List Nat).length = (if b = a then 0 else 1) + pc (b :: t)
    have e2 : decide ((a :: b :: t).getD (1 + 0) 0 ≠ (a :: b :: t).getD 0 0) = decide (b ≠ a) := rfl
    rw [e2]
    by_cases h : b = a
    · rw [if_neg (by simp [h]), if_pos h, List.length_map, ih]
      omega
    · rw [if_pos (by simp [h]), if_neg h, List.length_cons, List.length_map, ih]
      omega
/-- weights at marks -/
def mom : List (Rat × Rat) → Nat → Rat
  | [], _ => 0
  | a :: l, p => a.1 * a.2 ^ p + mom l p
/-- changes of sign -/
def chg : List (Rat × Rat) → Nat
  | a :: b :: t => (if 0 < a.1 * b.1 then 0 else 1) + chg (b :: t)
  | _ => 0
def scl (c : Rat) (l : List (Rat × Rat)) : List (Rat × Rat) := l.map fun a => (a.1 * (a.2 - c), a.2)
theorem mom_scl (c : Rat) : ∀ (l : List (Rat × Rat)) (p : Nat), mom (scl c l) p = mom l (p + 1) - c * mom l p
  | [], p => by simp [scl, mom]; grind
  | a :: l, p => by
    have := mom_scl c l p
    show a.1 * (a.2 - c) * a.2 ^ p + mom (scl c l) p = (a.1 * a.2 ^ (p + 1) + mom l (p + 1)) - c * (a.1 * a.2 ^ p + mom l p)
    rw [this, Rat.pow_succ]
    grind
theorem sqp {x : Rat} (h : x ≠ 0) : 0 < x * x := by
  by_cases z : 0 < x
  · exact Rat.mul_pos z z
  · have z2 : x ≤ 0 := Rat.not_lt.mp z
    have := Rat.mul_pos (a := -x) (b := -x) (by grind) (by grind)
    grind
theorem pos_of_mul {x y : Rat} (hx : 0 < x) (h : 0 < x * y) : 0 < y := by
  by_cases z : 0 < y
  · exact z
  · have z2 : y ≤ 0 := Rat.not_lt.mp z
    have := Rat.mul_le_mul_of_nonneg_left z2 (Rat.le_of_lt hx)
    grind
theorem mulpos_iff {a b c : Rat} (hab : 0 < a * b) : (0 < a * c ↔ 0 < b * c) := by
  have key : ∀ x y z : Rat, 0 < x * y → 0 < x * z → 0 < y * z := fun x y z h1 h2 => by
    have h3 := Rat.mul_pos h1 h2
    have e : x * y * (x * z) = (x * x) * (y * z) := by grind
    rw [e] at h3
    have hx : x ≠ 0 := fun h => by rw [h] at h1; simp at h1
    exact pos_of_mul (sqp hx) h3
  exact ⟨fun h => key a b c hab h, fun h => key b a c (by rw [Rat.mul_comm]; exact hab) h⟩
/-- one sign: the sum is of that sign -/
theorem mom_same {x : Rat} : ∀ (l : List (Rat × Rat)), (∀ a ∈ l, 0 < x * a.1) → l ≠ [] → 0 < x * mom l 0
  | [], _, h => absurd rfl h
  | [a], h, _ => by
    have := h a List.mem_cons_self
    simp only [mom, Rat.pow_zero]
    grind
  | a :: b :: l, h, _ => by
    have h1 := h a List.mem_cons_self
    have h2 := mom_same (b :: l) (fun c hc => h c (List.mem_cons_of_mem _ hc)) (by simp)
    show 0 < x * (a.1 * a.2 ^ 0 + mom (b :: l) 0)
    rw [Rat.pow_zero]
    grind
/-- no change, or a first change -/
theorem split : ∀ (a : Rat × Rat) (l : List (Rat × Rat)), a.1 ≠ 0 → (∀ b ∈ l, b.1 ≠ 0) → (∀ b ∈ a :: l, 0 < a.1 * b.1) ∨ ∃ pre c post, a :: l = pre ++ c :: post ∧ (∀ b ∈ pre, 0 < a.1 * b.1) ∧ a ∈ pre ∧ ¬ 0 < a.1 * c.1 ∧ chg (a :: l) = 1 + chg (c :: post)
  | a, [], ha, _ => .inl fun b hb => by
    rw [List.mem_singleton.mp hb]
    exact sqp ha
  | a, b :: l, ha, hl => by
    have haa : 0 < a.1 * a.1 := sqp ha
    by_cases h : 0 < a.1 * b.1
    · rcases split b l (hl b List.mem_cons_self) (fun c hc => hl c (List.mem_cons_of_mem _ hc)) with z | ⟨pre, c, post, e, z1, z2, z3, z4⟩
      · refine .inl fun c hc => ?_
        rcases List.mem_cons.mp hc with e | hc
        · rw [e]; exact haa
        · exact (mulpos_iff h).mpr (z c hc)
      · refine .inr ⟨a :: pre, c, post, by rw [e]; rfl, fun d hd => ?_, List.mem_cons_self, fun y => z3 ((mulpos_iff h).mp y), ?_⟩
        · rcases List.mem_cons.mp hd with e | hd
          · rw [e]; exact haa
          · exact (mulpos_iff h).mpr (z1 d hd)
        · show (if 0 < a.1 * b.1 then 0 else 1) + chg (b :: l) = _
          rw [if_pos h, z4]
          omega
    · refine .inr ⟨[a], b, l, rfl, fun d hd => by rw [List.mem_singleton.mp hd]; exact haa, List.mem_cons_self, h, ?_⟩
      show (if 0 < a.1 * b.1 then 0 else 1) + chg (b :: l) = _
      rw [if_neg h]
theorem chg_same {x : Rat} : ∀ (pre : List (Rat × Rat)) (c : Rat × Rat) (post : List (Rat × Rat)), (∀ b ∈ pre, 0 < x * b.1) → 0 < x * c.1 → chg (pre ++ c :: post) = chg (c :: post)
  | [], c, post, _, _ => rfl
  | [a], c, post, h, hc => by
    show (if 0 < a.1 * c.1 then 0 else 1) + chg (c :: post) = _
    have h1 := h a List.mem_cons_self
    rw [if_pos ((mulpos_iff h1).mp hc)]
    omega
  | a :: b :: pre, c, post, h, hc => by
    have ih := chg_same (b :: pre) c post (fun d hd => h d (List.mem_cons_of_mem _ hd)) hc
    show (if 0 < a.1 * b.1 then 0 else 1) + chg (b :: pre ++ c :: post) = _
    have h1 := h a List.mem_cons_self
    have h2 := h b (List.mem_cons_of_mem _ List.mem_cons_self)
    rw [if_pos ((mulpos_iff h1).mp h2), ih]
    omega
theorem chg_scl {c : Rat} : ∀ (l : List (Rat × Rat)), (∀ b ∈ l, c < b.2) → chg (scl c l) = chg l
  | [], _ => rfl
  | [_], _ => rfl
  | a :: b :: l, h => by
    have ih := chg_scl (b :: l) fun d hd => h d (List.mem_cons_of_mem _ hd)
    show (if 0 < a.1 * (a.2 - c) * (b.1 * (b.2 - c)) then 0 else 1) + chg (scl c (b :: l)) = (if 0 < a.1 * b.1 then 0 else 1) + chg (b :: l)
    rw [ih]
    have h1 := h a List.mem_cons_self
    have h2 := h b (List.mem_cons_of_mem _ List.mem_cons_self)
    have hp : 0 < (a.2 - c) * (b.2 - c) := Rat.mul_pos (by grind) (by grind)
    have e : a.1 * (a.2 - c) * (b.1 * (b.2 - c)) = (a.1 * b.1) * ((a.2 - c) * (b.2 - c)) := by grind
    rw [e]
    have iff : (0 < (a.1 * b.1) * ((a.2 - c) * (b.2 - c))) ↔ 0 < a.1 * b.1 := by
      constructor
      · intro h
        rw [Rat.mul_comm] at h
        exact pos_of_mul hp h
      · intro h
        exact Rat.mul_pos h hp
    by_cases z : 0 < a.1 * b.1
    · rw [if_pos (iff.mpr z), if_pos z]
    · rw [if_neg (fun y => z (iff.mp y)), if_neg z]
/-- a row of r changes of sign has a moment that does not vanish, the r-th at the latest -/
theorem moment : ∀ (r : Nat) (l : List (Rat × Rat)), l ≠ [] → (∀ a ∈ l, a.1 ≠ 0) → l.Pairwise (fun a b => a.2 < b.2) → chg l ≤ r → ∃ j, j ≤ r ∧ mom l j ≠ 0 := by
  intro r
  induction r with
  | zero =>
    intro l h0 h1 h2 h3
    cases l with
    | nil => exact absurd rfl h0
    | cons a l =>
      rcases split a l (h1 a List.mem_cons_self) (fun b hb => h1 b (List.mem_cons_of_mem _ hb)) with z | ⟨pre, c, post, e, z1, z2, z3, z4⟩
      · refine ⟨0, Nat.le_refl _, fun h => ?_⟩
        have := mom_same (a :: l) z (by simp)
        rw [h] at this
        simp at this
      · omega
  | succ r ih =>
    intro l h0 h1 h2 h3
    cases l with
    | nil => exact absurd rfl h0
    | cons a l =>
      rcases split a l (h1 a List.mem_cons_self) (fun b hb => h1 b (List.mem_cons_of_mem _ hb)) with z | ⟨pre, c, post, e, z1, z2, z3, z4⟩
      · refine ⟨0, by omega, fun h => ?_⟩
        have := mom_same (a :: l) z (by simp)
        rw [h] at this
        simp at this
      · -- a point between pre and c
        rw [e] at h1 h2 ⊢
        have h2' := List.pairwise_append.mp h2
        have hpc : ∀ b ∈ pre, b.2 < c.2 := fun b hb => h2'.2.2 b hb c List.mem_cons_self
        have hcp : ∀ b ∈ post, c.2 < b.2 := fun b hb => (List.pairwise_cons.mp h2'.2.1).1 b hb
        obtain ⟨t, ht1, ht2⟩ : ∃ t : Rat, (∀ b ∈ pre, b.2 < t) ∧ t < c.2 := by
          clear z1 z2 h1 h2 h2' e ih
          induction pre with
          | nil => exact ⟨c.2 - 1, (fun b hb => nomatch hb), by grind⟩
          | cons b pre ih2 =>
            obtain ⟨t, k1, k2⟩ := ih2 fun d hd => hpc d (List.mem_cons_of_mem _ hd)
            have hb := hpc b List.mem_cons_self
            by_cases hbt : b.2 < t
            · exact ⟨t, fun d hd => by
                rcases List.mem_cons.mp hd with e | hd
                · rw [e]; exact hbt
                · exact k1 d hd, k2⟩
            · refine ⟨(b.2 + c.2) / 2, fun d hd => ?_, by grind⟩
              rcases List.mem_cons.mp hd with e | hd
              · rw [e]; grind
              · have := k1 d hd
                grind
        have ht3 : ∀ b ∈ c :: post, t < b.2 := fun b hb => by
          rcases List.mem_cons.mp hb with e | hb
          · rw [e]; exact ht2
          · have := hcp b hb; grind
        have hc0 : c.1 ≠ 0 := h1 c (List.mem_append_right _ List.mem_cons_self)
        have ha0 : a.1 ≠ 0 := h1 a (List.mem_append_left _ z2)
        have hac : 0 < (-a.1) * c.1 := by
          have : a.1 * c.1 ≠ 0 := by
            intro h
            rcases Rat.mul_eq_zero.mp h with h | h
            · exact ha0 h
            · exact hc0 h
          grind
        have es : scl t (pre ++ c :: post) = scl t pre ++ scl t (c :: post) := List.map_append
        have hch : chg (scl t (pre ++ c :: post)) = chg (c :: post) := by
          rw [es]
          show chg (scl t pre ++ (c.1 * (c.2 - t), c.2) :: scl t post) = _
          have k1 : ∀ b ∈ scl t pre, 0 < -a.1 * b.1 := fun b hb => by
            obtain ⟨d, hd, rfl⟩ := List.mem_map.mp (show b ∈ pre.map _ from hb)
            have k1 := z1 d hd
            have k2 := ht1 d hd
            have := Rat.mul_pos k1 (show 0 < t - d.2 by grind)
            show 0 < -a.1 * (d.1 * (d.2 - t))
            grind
          have k2 : 0 < -a.1 * (c.1 * (c.2 - t)) := by
            have := Rat.mul_pos hac (show 0 < c.2 - t by grind)
            grind
          rw [chg_same (x := -a.1) (scl t pre) (c.1 * (c.2 - t), c.2) (scl t post) k1 k2]
          exact chg_scl (c :: post) ht3
        have p1 : ∀ b ∈ scl t (pre ++ c :: post), b.1 ≠ 0 := fun b hb => by
          obtain ⟨d, hd, rfl⟩ := List.mem_map.mp (show b ∈ (pre ++ c :: post).map _ from hb)
          have k1 := h1 d hd
          have k2 : d.2 - t ≠ 0 := by
            rcases List.mem_append.mp hd with y | y
            · have := ht1 d y; grind
            · have := ht3 d y; grind
          intro h
          rcases Rat.mul_eq_zero.mp h with h | h
          · exact k1 h
          · exact k2 h
        have p2 : (scl t (pre ++ c :: post)).Pairwise (fun a b => a.2 < b.2) := by
          unfold scl
          rw [List.pairwise_map]
          exact h2
        have p3 : chg (scl t (pre ++ c :: post)) ≤ r := by
          rw [hch]
          omega
        obtain ⟨j, hj, hm⟩ := ih (scl t (pre ++ c :: post)) (by simp [scl]) p1 p2 p3
        rw [mom_scl] at hm
        by_cases k : mom (pre ++ c :: post) (j + 1) = 0
        · refine ⟨j, by omega, fun k2 => hm ?_⟩
          rw [k, k2]
          grind
        · exact ⟨j + 1, by omega, k⟩
/-! ### as the lines have it -/
def prs : List Rat → List Int → List Rat → List (Rat × Rat)
  | l :: ls, x :: s, y :: t => (l * (x : Int), y) :: prs ls s t
  | _, _, _ => []
theorem prs_mom : ∀ (ls : List Rat) (s : List Int) (ms : List Rat) (p : Nat), dot ls s (ms.map (· ^ p)) = mom (prs ls s ms) p
  | [], _, _, _ => by simp [dot, prs, mom]
  | _ :: _, [], _, _ => by simp [dot, prs, mom]
  | _ :: _, _ :: _, [], _ => by simp [dot, prs, mom]
  | l :: ls, x :: s, y :: t, p => by
    show l * (x : Int) * y ^ p + dot ls s (t.map (· ^ p)) = l * (x : Int) * y ^ p + mom (prs ls s t) p
    rw [prs_mom ls s t p]
theorem prs_mem : ∀ {ls : List Rat} {s : List Int} {ms : List Rat} {a : Rat × Rat}, a ∈ prs ls s ms → ∃ l ∈ ls, ∃ x ∈ s, a.1 = l * (x : Int) ∧ a.2 ∈ ms
  | [], _, _, _, h => by simp [prs] at h
  | _ :: _, [], _, _, h => by simp [prs] at h
  | _ :: _, _ :: _, [], _, h => by simp [prs] at h
  | l :: ls, x :: s, y :: t, a, h => by
    rcases List.mem_cons.mp (show a ∈ (l * (x : Int), y) :: prs ls s t from h) with e | h
    · exact ⟨l, List.mem_cons_self, x, List.mem_cons_self, by rw [e], by rw [e]; exact List.mem_cons_self⟩
    · obtain ⟨l', h1, x', h2, h3, h4⟩ := prs_mem h
      exact ⟨l', List.mem_cons_of_mem _ h1, x', List.mem_cons_of_mem _ h2, h3, List.mem_cons_of_mem _ h4⟩
theorem prs_up : ∀ {ls : List Rat} {s : List Int} {ms : List Rat}, ms.Pairwise (· < ·) → (prs ls s ms).Pairwise (fun a b => a.2 < b.2)
  | [], _, _, _ => by simp [prs]
  | _ :: _, [], _, _ => by simp [prs]
  | _ :: _, _ :: _, [], _ => by simp [prs]
  | l :: ls, x :: s, y :: t, h => by
    show List.Pairwise _ ((l * (x : Int), y) :: prs ls s t)
    rw [List.pairwise_cons]
    obtain ⟨h1, h2⟩ := List.pairwise_cons.mp h
    exact ⟨fun a ha => by
      obtain ⟨_, _, _, _, _, h4⟩ := prs_mem ha
      exact h1 _ h4, prs_up h2⟩
theorem sg_ne {x : Int} (h : x = 1 ∨ x = -1) : ((x : Int) : Rat) ≠ 0 := by
  rcases h with rfl | rfl <;> decide
theorem sg_mul {x y : Int} (hx : x = 1 ∨ x = -1) (hy : y = 1 ∨ y = -1) {l k : Rat} (hl : 0 < l) (hk : 0 < k) : (0 < l * (x : Int) * (k * (y : Int))) ↔ y = x := by
  have hp := Rat.mul_pos hl hk
  rcases hx with rfl | rfl <;> rcases hy with rfl | rfl
  · have e : l * ((1 : Int) : Rat) * (k * ((1 : Int) : Rat)) = l * k := by
      have : ((1 : Int) : Rat) = 1 := rfl
      rw [this]; grind
    rw [e]; exact ⟨fun _ => rfl, fun _ => hp⟩
  · have e : l * ((1 : Int) : Rat) * (k * ((-1 : Int) : Rat)) = -(l * k) := by
      have : ((1 : Int) : Rat) = 1 := rfl
      have h2 : ((-1 : Int) : Rat) = -1 := rfl
      rw [this, h2]; grind
    rw [e]; exact ⟨fun h => by grind, fun h => by omega⟩
  · have e : l * ((-1 : Int) : Rat) * (k * ((1 : Int) : Rat)) = -(l * k) := by
      have : ((1 : Int) : Rat) = 1 := rfl
      have h2 : ((-1 : Int) : Rat) = -1 := rfl
      rw [this, h2]; grind
    rw [e]; exact ⟨fun h => by grind, fun h => by omega⟩
  · have e : l * ((-1 : Int) : Rat) * (k * ((-1 : Int) : Rat)) = l * k := by
      have h2 : ((-1 : Int) : Rat) = -1 := rfl
      rw [h2]; grind
    rw [e]; exact ⟨fun _ => rfl, fun _ => hp⟩
theorem prs_chg : ∀ {ls : List Rat} {s : List Int} {ms : List Rat}, (∀ l ∈ ls, 0 < l) → (∀ x ∈ s, x = 1 ∨ x = -1) → ls.length = s.length → ms.length = s.length → chg (prs ls s ms) = pc s
  | [], [], [], _, _, _, _ => rfl
  | [_], [_], [_], _, _, _, _ => rfl
  | l :: k :: ls, x :: y :: s, m :: n :: ms, hl, hs, h1, h2 => by
    have ih := prs_chg (ls := k :: ls) (s := y :: s) (ms := n :: ms) (fun a ha => hl a (List.mem_cons_of_mem _ ha)) (fun a ha => hs a (List.mem_cons_of_mem _ ha)) (by simpa using h1) (by simpa using h2)
    show (if 0 < l * (x : Int) * (k * (y : Int)) then 0 else 1) + chg (prs (k :: ls) (y :: s) (n :: ms)) = (if y = x then 0 else 1) + pc (y :: s)
    rw [ih]
    have h := sg_mul (hs x List.mem_cons_self) (hs y (List.mem_cons_of_mem _ List.mem_cons_self)) (hl l List.mem_cons_self) (hl k (List.mem_cons_of_mem _ List.mem_cons_self))
    by_cases z : y = x
    · rw [if_pos (h.mpr z), if_pos z]
    · rw [if_neg (fun q => z (h.mp q)), if_neg z]
  | [], _ :: _, _, _, _, h, _ => by simp at h
  | _ :: _, [], _, _, _, h, _ => by simp at h
  | [_], _ :: _ :: _, _, _, _, h, _ => by simp at h
  | _ :: _ :: _, [_], _, _, _, h, _ => by simp at h
  | _, [], _ :: _, _, _, _, h => by simp at h
  | _, _ :: _, [], _, _, _, h => by simp at h
  | _, _ :: _ :: _, [_], _, _, _, h => by simp at h
  | _, [_], _ :: _ :: _, _, _, _, h => by simp at h
theorem pc_lt : ∀ {s : List Int}, 1 ≤ s.length → pc s < s.length
  | [], h => by simp at h
  | [_], _ => by simp [pc]
  | a :: b :: t, _ => by
    have := pc_lt (s := b :: t) (by simp)
    simp only [List.length_cons] at this ⊢
    show (if b = a then 0 else 1) + pc (b :: t) < _
    split <;> omega
/-- a noise that is not nothing, at the number of crossings at the latest -/
theorem loud_at {c : Nat} {L : Ln} {s : List Int} (ok : LnOk c L) (hs : Signs s) (hl : s.length = L.ls.length) : ∃ N, N ≤ pc s ∧ nz L s N ≠ 0 := by
  have hf : Fits L s := ⟨hl.symm, by rw [← ok.len]; exact hl.symm⟩
  have hne : prs L.ls s L.ms ≠ [] := by
    have h1 := ok.l1
    have h2 := ok.len
    have h3 := hs.l1
    cases e1 : L.ls with
    | nil => rw [e1] at h1; simp at h1
    | cons l ls =>
      cases e2 : s with
      | nil => rw [e2] at h3; simp at h3
      | cons x s' =>
        cases e3 : L.ms with
        | nil => rw [e1, e3] at h2; simp at h2
        | cons m ms => simp [prs]
  obtain ⟨j, hj, hm⟩ := moment (pc s) (prs L.ls s L.ms) hne (fun a ha => by
    obtain ⟨l, h1, x, h2, h3, _⟩ := prs_mem ha
    rw [h3]
    intro h
    rcases Rat.mul_eq_zero.mp h with h | h
    · have := ok.pos l h1; grind
    · exact sg_ne (hs.sg x h2) h) (prs_up ok.up) (Nat.le_of_eq (prs_chg ok.pos hs.sg hf.a hf.b))
  refine ⟨j, hj, ?_⟩
  rw [nz_lin hf]
  show dot L.ls s (L.ms.map (· ^ j)) ≠ 0
  rw [prs_mom]
  exact hm
theorem loud {c : Nat} {L : Ln} {s : List Int} (ok : LnOk c L) (hs : Signs s) (hl : s.length = L.ls.length) : Loud L s := by
  obtain ⟨N, h1, h2⟩ := loud_at ok hs hl
  exact ⟨N, Nat.lt_of_le_of_lt h1 (pc_lt hs.l1), h2⟩
theorem lawOrd_quiet {L : Ln} {s : List Int} (p : Nat) (hp : p < lawOrd L s) (hl : p < s.length) : nz L s p = 0 := by
  unfold lawOrd at hp
  cases e : (List.range s.length).find? (fun p => decide (nz L s p ≠ 0)) with
  | none =>
    rw [List.find?_range_eq_none] at e
    have := e p hl
    simpa using this
  | some q =>
    rw [e] at hp
    rw [List.find?_range_eq_some] at e
    have := e.2.2 p hp
    simpa using this
/-- an order is at most the number of crossings -/
theorem lawOrd_poles {c : Nat} {L : Ln} {s : List Int} (ok : LnOk c L) (hs : Signs s) (hl : s.length = L.ls.length) : lawOrd L s ≤ (poles s).length := by
  rw [poles_pc]
  obtain ⟨N, h1, h2⟩ := loud_at ok hs hl
  rcases Nat.lt_or_ge (pc s) (lawOrd L s) with z | z
  · exact absurd (lawOrd_quiet N (by omega) (Nat.lt_of_le_of_lt h1 (pc_lt hs.l1))) h2
  · exact z
/-- an order is at least d: the first d powers are quiet -/
theorem lawOrd_ge {c : Nat} {L : Ln} {s : List Int} (ok : LnOk c L) (hs : Signs s) (hl : s.length = L.ls.length) (d : Nat) : d ≤ lawOrd L s ↔ Quiet L s d := by
  obtain ⟨h1, h2⟩ := lawOrd_lt (loud ok hs hl)
  constructor
  · intro h p hp
    exact lawOrd_quiet p (by omega) (by omega)
  · intro q
    rcases Nat.lt_or_ge (lawOrd L s) d with z | z
    · exact absurd (q _ z) h2
    · exact z
/-! ### the way back -/
theorem dot_append : ∀ {l1 : List Rat} {s1 : List Int} {t1 : List Rat} (l2 : List Rat) (s2 : List Int) (t2 : List Rat), l1.length = s1.length → t1.length = s1.length → dot (l1 ++ l2) (s1 ++ s2) (t1 ++ t2) = dot l1 s1 t1 + dot l2 s2 t2
  | [], [], [], _, _, _, _, _ => by simp [dot]; grind
  | l :: ls, x :: s, y :: t, l2, s2, t2, h1, h2 => by
    show l * (x : Int) * y + dot (ls ++ l2) (s ++ s2) (t ++ t2) = l * (x : Int) * y + dot ls s t + dot l2 s2 t2
    rw [dot_append l2 s2 t2 (by simpa using h1) (by simpa using h2)]
    grind
  | [], _ :: _, _, _, _, _, h, _ => by simp at h
  | _ :: _, [], _, _, _, _, h, _ => by simp at h
  | _, [], _ :: _, _, _, _, _, h => by simp at h
  | _, _ :: _, [], _, _, _, _, h => by simp at h
theorem dot_rev : ∀ {l : List Rat} {s : List Int} {t : List Rat}, l.length = s.length → t.length = s.length → dot l.reverse s.reverse t.reverse = dot l s t
  | [], [], [], _, _ => rfl
  | l :: ls, x :: s, y :: t, h1, h2 => by
    have h1 : ls.length = s.length := by simpa using h1
    have h2 : t.length = s.length := by simpa using h2
    rw [List.reverse_cons, List.reverse_cons, List.reverse_cons, dot_append _ _ _ (by simpa using h1) (by simpa using h2), dot_rev h1 h2]
    simp only [dot]
    grind
  | [], _ :: _, _, h, _ => by simp at h
  | _ :: _, [], _, h, _ => by simp at h
  | _, [], _ :: _, _, h => by simp at h
  | _, _ :: _, [], _, h => by simp at h
theorem dot_sgn (h : Int) : ∀ (l : List Rat) (s : List Int) (t : List Rat), dot l (s.map fun x => h * x) t = (h : Int) * dot l s t
  | [], _, _ => by simp [dot]
  | _ :: _, [], _ => by simp [dot]
  | _ :: _, _ :: _, [] => by simp [dot]
  | l :: ls, x :: s, y :: t => by
    simp only [List.map_cons, dot]
    rw [dot_sgn h ls s t, Rat.intCast_mul]
    grind
theorem neg_powQ (m : Rat) : ∀ p : Nat, (-m) ^ p = (-1) ^ p * m ^ p := fun p => by
  have : -m = m * (-1) := by grind
  rw [this, mul_powQ]
theorem nz_back {L : Ln} {s : List Int} (h : Fits L s) (p : Nat) : nz L.back s.reverse p = (-1) ^ p * nz L s p := by
  have h2 : Fits L.back s.reverse := ⟨by show L.ls.reverse.length = _; simp [h.a], by show (L.ms.reverse.map _).length = _; simp [h.b]⟩
  rw [nz_lin h2, nz_lin h]
  show dot L.ls.reverse s.reverse ((L.ms.reverse.map fun q => -q).map (· ^ p)) = (-1) ^ p * dot L.ls s (L.ms.map (· ^ p))
  rw [List.map_map, ← dot_mul, ← dot_rev (l := L.ls) (s := s) h.a (by rw [List.length_map]; exact h.b), List.map_reverse]
  congr 1
  congr 1
  congr 1
  funext m
  exact neg_powQ m p
theorem quiet_back {L : Ln} {s : List Int} (h : Fits L s) {d : Nat} (q : Quiet L s d) : Quiet L.back (turned s.reverse) d := fun p hp => by
  have h2 : Fits L.back (turned s.reverse) := ⟨by show L.ls.reverse.length = _; simp [h.a, turned], by show (L.ms.reverse.map _).length = _; simp [h.b, turned]⟩
  have h3 : Fits L.back s.reverse := ⟨by show L.ls.reverse.length = _; simp [h.a], by show (L.ms.reverse.map _).length = _; simp [h.b]⟩
  have e := nz_back h p
  rw [q p hp, Rat.mul_zero, nz_lin h3] at e
  rw [nz_lin h2]
  show dot L.back.ls (s.reverse.map fun x => s.reverse.headD 1 * x) _ = 0
  rw [dot_sgn]
  have e : dot L.back.ls s.reverse (L.back.ms.map (· ^ p)) = 0 := e
  rw [e, Rat.mul_zero]
end K79
set_option Elab.async false
set_option linter.all false
/-! M5: the words that bring a row to nothing: listed, counted, numbered. Plain Lean. -/
namespace K79
/-- the ends of j signs that bring the row to nothing, in order -/
def ends (st : List (List Int)) (m : Nat) : Nat → List Int → List (List Int)
  | 0, r => if r = List.replicate m 0 then [[]] else []
  | j + 1, r => (sgs (st.length - 1 - j)).flatMap fun s => (ends st m j (led r (st.getD (st.length - 1 - j) []) s)).map (s :: ·)
theorem cnt_ends (st : List (List Int)) (m : Nat) : ∀ j r, cnt st m j r = ((ends st m j r).length : Nat)
  | 0, r => by
    unfold cnt ends
    split <;> rfl
  | j + 1, r => by
    unfold cnt ends
    have e : ∀ sg : List Int, (sg.map fun s => cnt st m j (led r (st.getD (st.length - 1 - j) []) s)).sum = ((sg.flatMap fun s => (ends st m j (led r (st.getD (st.length - 1 - j) []) s)).map (s :: ·)).length : Nat) := fun sg => by
      induction sg with
      | nil => rfl
      | cons s sg ih =>
        rw [List.map_cons, List.sum_cons, ih, List.flatMap_cons, List.length_append, List.length_map, cnt_ends st m j]
        omega
    exact e _
/-- the v-th, as pick_word goes -/
theorem pk_ends {st : List (List Int)} {m : Nat} {v : Int} (h0 : 0 ≤ v) (h1 : v < cnt st m st.length (List.replicate m 0)) : ∀ k, k ≤ st.length →
    ∃ e, (ends st m (st.length - k) (pkS st m v k).1)[(pkS st m v k).2.1.toNat]? = some e ∧ (ends st m st.length (List.replicate m 0))[v.toNat]? = some ((pkS st m v k).2.2 ++ e)
  | 0, _ => by
    have hl : v.toNat < (ends st m st.length (List.replicate m 0)).length := by rw [cnt_ends] at h1; omega
    exact ⟨_, List.getElem?_eq_getElem hl, List.getElem?_eq_getElem hl⟩
  | k + 1, hk => by
    obtain ⟨e, he, hw⟩ := pk_ends h0 h1 k (by omega)
    obtain ⟨a1, a2, a3, a4⟩ := pkS_inv h0 h1 k (by omega)
    have ej : st.length - k = (st.length - (k + 1)) + 1 := by omega
    have ek : st.length - 1 - (st.length - (k + 1)) = k := by omega
    have e1 : st.length - 1 - k = st.length - (k + 1) := by omega
    rw [ej, ends, ek] at he
    have hc := cnt_ends st m (st.length - (k + 1)) (led (pkS st m v k).1 (st.getD k []) 1)
    unfold pkS
    simp only [e1]
    have dec : ∀ (A B : List (List Int)) (n : Nat), (A.map (1 :: ·) ++ B.map (-1 :: ·))[n]? = some e → (n < A.length → ∃ e', A[n]? = some e' ∧ e = 1 :: e') ∧ (A.length ≤ n → ∃ e', B[n - A.length]? = some e' ∧ e = -1 :: e') := fun A B n h => by
      refine ⟨fun hn => ?_, fun hn => ?_⟩
      · rw [List.getElem?_append_left (by simpa using hn), List.getElem?_map, List.getElem?_eq_getElem hn] at h
        exact ⟨_, List.getElem?_eq_getElem hn, (Option.some.inj h).symm⟩
      · rw [List.getElem?_append_right (by simpa using hn), List.length_map, List.getElem?_map] at h
        cases z : B[n - A.length]? with
        | none => rw [z] at h; cases h
        | some e' => rw [z] at h; exact ⟨e', rfl, (Option.some.inj h).symm⟩
    have he2 : ∃ B, ((ends st m (st.length - (k + 1)) (led (pkS st m v k).1 (st.getD k []) 1)).map (1 :: ·) ++ B.map (-1 :: ·))[(pkS st m v k).2.1.toNat]? = some e ∧ (k ≠ 0 → B = ends st m (st.length - (k + 1)) (led (pkS st m v k).1 (st.getD k []) (-1))) ∧ (k = 0 → B = []) := by
      unfold sgs at he
      split at he
      · rename_i z
        exact ⟨[], by simpa using he, fun y => absurd z y, fun _ => rfl⟩
      · rename_i z
        exact ⟨_, by simpa using he, fun _ => rfl, fun y => absurd y z⟩
    obtain ⟨B, hB, hB1, hB0⟩ := he2
    obtain ⟨d1, d2⟩ := dec _ _ _ hB
    split
    · rename_i hlt
      obtain ⟨e', q1, q2⟩ := d1 (by omega)
      exact ⟨e', q1, by rw [hw, q2]; simp⟩
    · rename_i hge
      obtain ⟨e', q1, q2⟩ := d2 (by omega)
      have hk0 : k ≠ 0 := fun z => by rw [hB0 z] at q1; simp at q1
      rw [hB1 hk0] at q1
      refine ⟨e', ?_, by rw [hw, q2]; simp⟩
      rw [← q1]
      show _[((pkS st m v k).2.1 - cnt st m (st.length - (k + 1)) (led (pkS st m v k).1 (st.getD k []) 1)).toNat]? = _
      congr 1
      omega
theorem pick_ends {st : List (List Int)} {m : Nat} {v : Int} (h0 : 0 ≤ v) (h1 : v < cnt st m st.length (List.replicate m 0)) : (ends st m st.length (List.replicate m 0))[v.toNat]? = some (pick st m v) := by
  obtain ⟨e, he, hw⟩ := pk_ends h0 h1 st.length (Nat.le_refl _)
  rw [Nat.sub_self, ends] at he
  split at he
  · have : e = [] := by
      have := List.mem_of_getElem? he
      simpa using this
    rw [hw, this, List.append_nil]
    rfl
  · simp at he
theorem hush_ends (L : Ln) (hs : List (List Rat)) : hushL L hs = ends (steps L hs) hs.length (steps L hs).length (List.replicate hs.length 0) := by
  unfold hushL
  have h : tot L hs = ((ends (steps L hs) hs.length (steps L hs).length (List.replicate hs.length 0)).length : Nat) := cnt_ends ..
  apply List.ext_getElem?
  intro n
  rw [List.getElem?_map]
  rcases Nat.lt_or_ge n (ends (steps L hs) hs.length (steps L hs).length (List.replicate hs.length 0)).length with z | z
  · have hn : n < (tot L hs).toNat := by omega
    rw [List.getElem?_range hn]
    have := pick_ends (st := steps L hs) (m := hs.length) (v := (n : Nat)) (by omega) (by show (n : Int) < tot L hs; omega)
    rw [show ((n : Nat) : Int).toNat = n by omega] at this
    rw [this]
    rfl
  · rw [List.getElem?_eq_none z, List.getElem?_eq_none (by simp; omega)]
    rfl
def manyAt (st : List (List Int)) (m : Nat) (v : Int) (k : Nat) : Int := cnt st m (st.length - 1 - k) (led (pkS st m v k).1 (st.getD k []) 1)
theorem pkS_yes {st : List (List Int)} {m : Nat} {v : Int} {k : Nat} (h : (pkS st m v k).2.1 < manyAt st m v k) : pkS st m v (k + 1) = (led (pkS st m v k).1 (st.getD k []) 1, (pkS st m v k).2.1, (pkS st m v k).2.2 ++ [1]) := if_pos h
theorem pkS_no {st : List (List Int)} {m : Nat} {v : Int} {k : Nat} (h : ¬ (pkS st m v k).2.1 < manyAt st m v k) : pkS st m v (k + 1) = (led (pkS st m v k).1 (st.getD k []) (-1), (pkS st m v k).2.1 - manyAt st m v k, (pkS st m v k).2.2 ++ [-1]) := if_neg h
theorem pkS_pre (st : List (List Int)) (m : Nat) (v : Int) (k : Nat) : ∀ j, ∃ e, (pkS st m v (k + j)).2.2 = (pkS st m v k).2.2 ++ e
  | 0 => ⟨[], by simp⟩
  | j + 1 => by
    obtain ⟨e, he⟩ := pkS_pre st m v k j
    by_cases h : (pkS st m v (k + j)).2.1 < manyAt st m v (k + j)
    · refine ⟨e ++ [1], ?_⟩
      rw [← Nat.add_assoc, pkS_yes h, he, List.append_assoc]
    · refine ⟨e ++ [-1], ?_⟩
      rw [← Nat.add_assoc, pkS_no h, he, List.append_assoc]
theorem pick_getD {st : List (List Int)} {m : Nat} {v : Int} (h0 : 0 ≤ v) (h1 : v < cnt st m st.length (List.replicate m 0)) {k : Nat} (hk : k < st.length) {x : Int} (hx : (pkS st m v (k + 1)).2.2 = (pkS st m v k).2.2 ++ [x]) : (pick st m v).getD k 0 = x := by
  obtain ⟨_, _, _, a4⟩ := pkS_inv h0 h1 k (by omega)
  obtain ⟨e, he⟩ := pkS_pre st m v (k + 1) (st.length - (k + 1))
  rw [show k + 1 + (st.length - (k + 1)) = st.length by omega] at he
  show (pkS st m v st.length).2.2.getD k 0 = x
  rw [he, hx, List.getD_eq_getElem?_getD, List.append_assoc, List.getElem?_append_right (by omega), a4, Nat.sub_self]
  rfl
/-- the number of the v-th is v -/
theorem nu_pick {st : List (List Int)} {m : Nat} {v : Int} (h0 : 0 ≤ v) (h1 : v < cnt st m st.length (List.replicate m 0)) : ∀ k, k ≤ st.length →
    (nuS st m (pick st m v) k).1 = (pkS st m v k).1 ∧ (nuS st m (pick st m v) k).2 + (pkS st m v k).2.1 = v
  | 0, _ => ⟨rfl, by simp [nuS, pkS]⟩
  | k + 1, hk => by
    obtain ⟨b1, b2⟩ := nu_pick h0 h1 k (by omega)
    have step : nuS st m (pick st m v) (k + 1) = (led (nuS st m (pick st m v) k).1 (st.getD k []) ((pick st m v).getD k 0), if (pick st m v).getD k 0 = -1 then (nuS st m (pick st m v) k).2 + cnt st m (st.length - 1 - k) (led (nuS st m (pick st m v) k).1 (st.getD k []) 1) else (nuS st m (pick st m v) k).2) := rfl
    rw [b1] at step
    by_cases h : (pkS st m v k).2.1 < manyAt st m v k
    · have e := pkS_yes h
      have hx := pick_getD h0 h1 (k := k) (x := 1) (by omega) (by rw [e])
      rw [step, hx, e]
      refine ⟨rfl, ?_⟩
      show (if (1 : Int) = -1 then (nuS st m (pick st m v) k).2 + cnt st m (st.length - 1 - k) (led (pkS st m v k).1 (st.getD k []) 1) else (nuS st m (pick st m v) k).2) + (pkS st m v k).2.1 = v
      rw [if_neg (by decide)]
      exact b2
    · have e := pkS_no h
      have hx := pick_getD h0 h1 (k := k) (x := -1) (by omega) (by rw [e])
      rw [step, hx, e]
      refine ⟨rfl, ?_⟩
      show (if (-1 : Int) = -1 then (nuS st m (pick st m v) k).2 + cnt st m (st.length - 1 - k) (led (pkS st m v k).1 (st.getD k []) 1) else (nuS st m (pick st m v) k).2) + ((pkS st m v k).2.1 - manyAt st m v k) = v
      rw [if_pos rfl]
      show (nuS st m (pick st m v) k).2 + manyAt st m v k + _ = v
      omega
theorem num_pick {st : List (List Int)} {m : Nat} {v : Int} (h0 : 0 ≤ v) (h1 : v < cnt st m st.length (List.replicate m 0)) : numW st m (pick st m v) = v := by
  obtain ⟨_, b⟩ := nu_pick h0 h1 st.length (Nat.le_refl _)
  obtain ⟨_, a2, a3, _⟩ := pkS_inv h0 h1 st.length (Nat.le_refl _)
  rw [Nat.sub_self, cnt] at a3
  unfold numW
  split at a3 <;> omega
/-! ### the fewest crossings -/
theorem pc_cons2 (b s : Int) (e : List Int) : (pc (b :: s :: e) : Int) = pc (s :: e) + b2n (!decide (s = b)) := by
  show (((if s = b then 0 else 1) + pc (s :: e) : Nat) : Int) = _
  by_cases h : s = b
  · rw [if_pos h, decide_eq_true h]; simp [b2n]
  · rw [if_neg h, decide_eq_false h]; simp [b2n]; omega
theorem fw_ends (st : List (List Int)) (m : Nat) : ∀ j r b, (∀ c, fw st m j r b = some c → (∃ e ∈ ends st m j r, (pc (b :: e) : Int) = c) ∧ ∀ e ∈ ends st m j r, c ≤ (pc (b :: e) : Int)) ∧ (fw st m j r b = none → ends st m j r = [])
  | 0, r, b => by
    unfold fw ends
    split
    · refine ⟨fun c h => ?_, fun h => nomatch h⟩
      cases h
      exact ⟨⟨[], by simp, rfl⟩, fun e he => by rw [List.mem_singleton.mp he]; exact Int.le_refl _⟩
    · exact ⟨(fun c h => nomatch h), fun _ => rfl⟩
  | j + 1, r, b => by
    have ih := fw_ends st m j
    have key : ∀ e, e ∈ ends st m (j + 1) r ↔ ∃ s ∈ sgs (st.length - 1 - j), ∃ e' ∈ ends st m j (led r (st.getD (st.length - 1 - j) []) s), e = s :: e' := fun e => by
      rw [ends, List.mem_flatMap]
      constructor
      · rintro ⟨s, hs, h⟩
        obtain ⟨e', h1, h2⟩ := List.mem_map.mp h
        exact ⟨s, hs, e', h1, h2.symm⟩
      · rintro ⟨s, hs, e', h1, h2⟩
        exact ⟨s, hs, List.mem_map.mpr ⟨e', h1, h2.symm⟩⟩
    refine ⟨fun c h => ?_, fun h => ?_⟩
    · obtain ⟨s, hs, c', h1, h2⟩ := fw_some h
      obtain ⟨⟨e', he', hp⟩, _⟩ := (ih _ s).1 c' h1
      refine ⟨⟨s :: e', (key _).mpr ⟨s, hs, e', he', rfl⟩, by rw [pc_cons2, hp, h2]⟩, fun e he => ?_⟩
      obtain ⟨s2, hs2, e2, he2, rfl⟩ := (key _).mp he
      rw [fw] at h
      have hmin := (List.min?_eq_some_iff.mp h).2
      cases z : fw st m j (led r (st.getD (st.length - 1 - j) []) s2) s2 with
      | none => rw [(ih _ s2).2 z] at he2; cases he2
      | some c2 =>
        have := ((ih _ s2).1 c2 z).2 e2 he2
        have hm := hmin (c2 + b2n (!decide (s2 = b))) (List.mem_map.mpr ⟨s2, List.mem_filter.mpr ⟨hs2, by rw [z]; rfl⟩, by rw [z]; rfl⟩)
        rw [pc_cons2]
        omega
    · rw [fw, List.min?_eq_none_iff, List.map_eq_nil_iff, List.filter_eq_nil_iff] at h
      apply List.eq_nil_iff_forall_not_mem.mpr
      intro e he
      obtain ⟨s, hs, e', he', rfl⟩ := (key _).mp he
      have := h s hs
      cases z : fw st m j (led r (st.getD (st.length - 1 - j) []) s) s with
      | none => rw [(ih _ s).2 z] at he'; cases he'
      | some c => rw [z] at this; simp at this
/-- the word that least_crossed makes: due, and of the fewest crossings -/
theorem lc_ends {st : List (List Int)} {m : Nat} {c0 : Int} (h : fw st m st.length (List.replicate m 0) 1 = some c0) : ∀ k, k ≤ st.length →
    ∃ c, fw st m (st.length - k) (lcS st m k).1 (lcS st m k).2.1 = some c ∧ (pc (1 :: (lcS st m k).2.2) : Int) + c = c0 ∧ (1 :: (lcS st m k).2.2).getLast? = some (lcS st m k).2.1 ∧ ∀ e ∈ ends st m (st.length - k) (lcS st m k).1, (lcS st m k).2.2 ++ e ∈ ends st m st.length (List.replicate m 0)
  | 0, _ => ⟨c0, h, by show ((0 : Nat) : Int) + c0 = c0; omega, rfl, fun e he => he⟩
  | k + 1, hk => by
    obtain ⟨c, h1, h2, h3, h4⟩ := lc_ends h k (by omega)
    obtain ⟨_, a2, _, _⟩ := lcS_inv (by rw [h]; rfl) k (by omega)
    have ej : st.length - k = (st.length - 1 - k) + 1 := by omega
    have ek : st.length - 1 - (st.length - 1 - k) = k := by omega
    have e1 : st.length - (k + 1) = st.length - 1 - k := by omega
    have hc' := h1
    rw [ej] at hc'
    obtain ⟨s0, hs0, c0', k1, k2⟩ := fw_some hc'
    rw [ek] at hs0 k1
    have s1 : (1 : Int) ∈ sgs k := by unfold sgs; split <;> simp
    have grow : ∀ (w : List Int) (b s : Int), (1 :: w).getLast? = some b → (pc (1 :: (w ++ [s])) : Int) = pc (1 :: w) + b2n (!decide (s = b)) := fun w => by
      have g : ∀ (w : List Int) (a b s : Int), (a :: w).getLast? = some b → (pc (a :: (w ++ [s])) : Int) = pc (a :: w) + b2n (!decide (s = b)) := by
        intro w
        induction w with
        | nil =>
          intro a b s hb
          have : a = b := by simpa using hb
          subst this
          rw [List.nil_append, pc_cons2]
          show ((0 : Nat) : Int) + _ = ((0 : Nat) : Int) + _
          rfl
        | cons y w ih =>
          intro a b s hb
          rw [List.cons_append, pc_cons2, pc_cons2, ih y b s (by simpa [List.getLast?_cons_cons] using hb)]
          omega
      exact g w 1
    have fin : ∀ s c', s ∈ sgs k → fw st m (st.length - 1 - k) (led (lcS st m k).1 (st.getD k []) s) s = some c' → c' + b2n (!decide (s = (lcS st m k).2.1)) = c → lcS st m (k + 1) = (led (lcS st m k).1 (st.getD k []) s, s, (lcS st m k).2.2 ++ [s]) →
        ∃ c, fw st m (st.length - (k + 1)) (lcS st m (k + 1)).1 (lcS st m (k + 1)).2.1 = some c ∧ (pc (1 :: (lcS st m (k + 1)).2.2) : Int) + c = c0 ∧ (1 :: (lcS st m (k + 1)).2.2).getLast? = some (lcS st m (k + 1)).2.1 ∧ ∀ e ∈ ends st m (st.length - (k + 1)) (lcS st m (k + 1)).1, (lcS st m (k + 1)).2.2 ++ e ∈ ends st m st.length (List.replicate m 0) := fun s c' hs q1 q2 q3 => by
      rw [q3, e1]
      refine ⟨c', q1, ?_, ?_, fun e he => ?_⟩
      · show (pc (1 :: ((lcS st m k).2.2 ++ [s])) : Int) + c' = c0
        rw [grow _ _ s h3]
        omega
      · show (1 :: ((lcS st m k).2.2 ++ [s])).getLast? = some s
        rw [← List.cons_append, List.getLast?_append]
        rfl
      · show (lcS st m k).2.2 ++ [s] ++ e ∈ _
        rw [List.append_assoc]
        refine h4 _ ?_
        rw [ej, ends, ek, List.mem_flatMap]
        exact ⟨s, hs, List.mem_map.mpr ⟨e, he, rfl⟩⟩
    by_cases z : (fw st m (st.length - 1 - k) (led (lcS st m k).1 (st.getD k []) 1) 1).map (· + b2n (!decide ((lcS st m k).2.1 = 1))) = fw st m (st.length - k) (lcS st m k).1 (lcS st m k).2.1
    · have e : lcS st m (k + 1) = (led (lcS st m k).1 (st.getD k []) 1, 1, (lcS st m k).2.2 ++ [1]) := by
        rw [lcS]; simp only [if_pos z]
      rw [h1] at z
      cases y : fw st m (st.length - 1 - k) (led (lcS st m k).1 (st.getD k []) 1) 1 with
      | none => rw [y] at z; cases z
      | some c' =>
        rw [y] at z
        refine fin 1 c' s1 y ?_ e
        have z : c' + b2n (!decide ((lcS st m k).2.1 = 1)) = c := Option.some.inj z
        rw [← z]
        rcases a2 with q | q <;> rw [q] <;> rfl
    · have e : lcS st m (k + 1) = (led (lcS st m k).1 (st.getD k []) (-1), -1, (lcS st m k).2.2 ++ [-1]) := by
        rw [lcS]; simp only [if_neg z]
      have hs' : s0 = -1 := by
        rcases sgs_mem hs0 with q | q
        · exfalso
          apply z
          subst q
          rw [k1, h1, ← k2]
          show some _ = some _
          congr 2
          rcases a2 with q | q <;> rw [q] <;> rfl
        · exact q
      subst hs'
      exact fin (-1) c0' hs0 k1 k2 e
theorem least_ends {st : List (List Int)} {m : Nat} {c0 : Int} (h : fw st m st.length (List.replicate m 0) 1 = some c0) : lcW st m ∈ ends st m st.length (List.replicate m 0) ∧ (pc (1 :: lcW st m) : Int) = c0 := by
  obtain ⟨c, h1, h2, _, h4⟩ := lc_ends h st.length (Nat.le_refl _)
  rw [Nat.sub_self] at h1 h4
  rw [fw] at h1
  split at h1
  · cases h1
    refine ⟨?_, by unfold lcW; omega⟩
    rename_i hr
    have := h4 [] (by rw [ends, if_pos hr]; simp)
    rwa [List.append_nil] at this
  · cases h1
end K79
set_option Elab.async false
set_option linter.all false
/-! M6: the words that hushed_words lists are the words of the order asked for, in order. Plain Lean. -/
namespace K79
def tails : Nat → List (List Int)
  | 0 => [[]]
  | j + 1 => (tails j).map (1 :: ·) ++ (tails j).map (-1 :: ·)
theorem signsN_lo {j : Nat} {v : Nat} (h : v < 2 ^ j) : signsN (j + 1) (v : Nat) = 1 :: signsN j (v : Nat) := by
  unfold signsN
  rw [List.range_succ_eq_map, List.map_cons, List.map_map]
  congr 1
  · rw [show j + 1 - 1 - 0 = j by omega]
    have : ((v : Nat) : Int) / 2 ^ j = 0 := Int.ediv_eq_zero_of_lt (by omega) (by exact_mod_cast h)
    rw [this]
    rfl
  · apply List.map_congr_left
    intro k hk
    show (if ((v : Nat) : Int) / 2 ^ (j + 1 - 1 - (k + 1)) % 2 = 0 then _ else _) = _
    rw [show j + 1 - 1 - (k + 1) = j - 1 - k by omega]
theorem signsN_hi {j : Nat} {v : Nat} (h : v < 2 ^ j) : signsN (j + 1) ((2 ^ j + v : Nat) : Int) = -1 :: signsN j (v : Nat) := by
  unfold signsN
  rw [List.range_succ_eq_map, List.map_cons, List.map_map]
  have cast : ∀ a b : Nat, (((a : Nat) : Int) / 2 ^ b % 2 = 0) ↔ (a / 2 ^ b % 2 = 0) := fun a b => by
    have : ((a : Nat) : Int) / 2 ^ b % 2 = ((a / 2 ^ b % 2 : Nat) : Int) := by norm_cast
    rw [this]
    omega
  congr 1
  · rw [show j + 1 - 1 - 0 = j by omega]
    rw [if_neg]
    rw [cast]
    have : (2 ^ j + v) / 2 ^ j = 1 := by
      rw [Nat.add_comm, Nat.add_div_right _ (Nat.pow_pos (by decide)), Nat.div_eq_of_lt h]
    rw [this]
    decide
  · apply List.map_congr_left
    intro k hk
    have hk : k < j := List.mem_range.mp hk
    show (if ((2 ^ j + v : Nat) : Int) / 2 ^ (j + 1 - 1 - (k + 1)) % 2 = 0 then _ else _) = _
    rw [show j + 1 - 1 - (k + 1) = j - 1 - k by omega]
    have e : (2 ^ j + v) / 2 ^ (j - 1 - k) % 2 = v / 2 ^ (j - 1 - k) % 2 := by
      have e2 : 2 ^ j = 2 ^ (j - 1 - k) * (2 ^ k * 2) := by
        rw [← Nat.pow_succ, ← Nat.pow_add]
        congr 1
        omega
      rw [e2, Nat.mul_add_div (Nat.pow_pos (by decide))]
      omega
    have iff : (((2 ^ j + v : Nat) : Int) / 2 ^ (j - 1 - k) % 2 = 0) ↔ (((v : Nat) : Int) / 2 ^ (j - 1 - k) % 2 = 0) := by
      rw [cast, cast, e]
    by_cases z : ((v : Nat) : Int) / 2 ^ (j - 1 - k) % 2 = 0
    · rw [if_pos (iff.mpr z), if_pos z]
    · rw [if_neg (fun y => z (iff.mp y)), if_neg z]
theorem tails_eq : ∀ j, tails j = (List.range (2 ^ j)).map fun v => signsN j ((v : Nat) : Int)
  | 0 => rfl
  | j + 1 => by
    rw [tails, tails_eq j, Nat.pow_succ, Nat.mul_two, List.range_add, List.map_append, List.map_map, List.map_map, List.map_map]
    congr 1
    · apply List.map_congr_left
      intro v hv
      exact (signsN_lo (List.mem_range.mp hv)).symm
    · apply List.map_congr_left
      intro v hv
      exact (signsN_hi (List.mem_range.mp hv)).symm
def words (n : Nat) : List (List Int) := (List.range (2 ^ (n - 1))).map fun v => signsN n ((v : Nat) : Int)
theorem words_eq {n : Nat} (h : 1 ≤ n) : words n = (tails (n - 1)).map (1 :: ·) := by
  obtain ⟨k, rfl⟩ : ∃ k, n = k + 1 := ⟨n - 1, by omega⟩
  unfold words
  rw [show k + 1 - 1 = k by omega, tails_eq, List.map_map]
  apply List.map_congr_left
  intro v hv
  exact signsN_lo (List.mem_range.mp hv)
theorem tails_mem : ∀ {j : Nat} {e : List Int}, e ∈ tails j ↔ e.length = j ∧ ∀ x ∈ e, x = 1 ∨ x = -1
  | 0, e => by
    rw [tails, List.mem_singleton]
    constructor
    · rintro rfl; exact ⟨rfl, fun x h => nomatch h⟩
    · rintro ⟨h, _⟩; exact List.length_eq_zero_iff.mp h
  | j + 1, e => by
    rw [tails, List.mem_append, List.mem_map, List.mem_map]
    constructor
    · rintro (⟨t, ht, rfl⟩ | ⟨t, ht, rfl⟩)
      · obtain ⟨h1, h2⟩ := tails_mem.mp ht
        exact ⟨by simp [h1], fun x hx => by
          rcases List.mem_cons.mp hx with z | z
          · exact .inl z
          · exact h2 x z⟩
      · obtain ⟨h1, h2⟩ := tails_mem.mp ht
        exact ⟨by simp [h1], fun x hx => by
          rcases List.mem_cons.mp hx with z | z
          · exact .inr z
          · exact h2 x z⟩
    · rintro ⟨h1, h2⟩
      cases e with
      | nil => simp at h1
      | cons x t =>
        have ht : t ∈ tails j := tails_mem.mpr ⟨by simpa using h1, fun y hy => h2 y (List.mem_cons_of_mem _ hy)⟩
        rcases h2 x List.mem_cons_self with z | z
        · exact .inl ⟨t, ht, by rw [z]⟩
        · exact .inr ⟨t, ht, by rw [z]⟩
theorem words_mem {n : Nat} (h : 1 ≤ n) (h24 : n ≤ 24) {s : List Int} : s ∈ words n ↔ Word s ∧ s.length = n := by
  rw [words_eq h, List.mem_map]
  constructor
  · rintro ⟨t, ht, rfl⟩
    obtain ⟨h1, h2⟩ := tails_mem.mp ht
    refine ⟨⟨⟨by simp, by simp; omega, fun x hx => ?_⟩, rfl⟩, by simp; omega⟩
    rcases List.mem_cons.mp hx with z | z
    · exact .inl z
    · exact h2 x z
  · rintro ⟨w, hl⟩
    cases s with
    | nil => have := w.l1; simp at this
    | cons x t =>
      have hx : x = 1 := by simpa using w.hd
      exact ⟨t, tails_mem.mpr ⟨by simp at hl; omega, fun y hy => w.sg y (List.mem_cons_of_mem _ hy)⟩, by rw [hx]⟩
/-! ### rows led -/
def ledAll : List (List Int) → List Int → List Int → List Int
  | a :: as, r, x :: s => ledAll as (led r a x) s
  | _, r, _ => r
theorem led1 (sg : List Int) (f : Int → List (List Int)) (h : sg = [1, -1]) : sg.flatMap f = f 1 ++ f (-1) := by
  rw [h]; simp
theorem drop_get {st : List (List Int)} {k : Nat} (h : k < st.length) : st.drop k = st.getD k [] :: st.drop (k + 1) := by
  rw [List.drop_eq_getElem_cons h, List.getD_eq_getElem?_getD, List.getElem?_eq_getElem h]
  rfl
theorem ends_tails {st : List (List Int)} {m : Nat} : ∀ (j : Nat) (r : List Int), j < st.length → ends st m j r = (tails j).filter fun e => decide (ledAll (st.drop (st.length - j)) r e = List.replicate m 0)
  | 0, r, _ => by
    rw [ends, tails, Nat.sub_zero, List.drop_length]
    have e : [[]].filter (fun e => decide (ledAll [] r e = List.replicate m 0)) = if decide (r = List.replicate m 0) = true then [[]] else [] := by
      rw [List.filter_cons]
      rfl
    rw [e]
    by_cases h : r = List.replicate m 0
    · rw [if_pos h, if_pos (decide_eq_true h)]
    · rw [if_neg h, if_neg (by rw [decide_eq_true_iff]; exact h)]
  | j + 1, r, hj => by
    have e0 : sgs (st.length - 1 - j) = [1, -1] := by
      unfold sgs
      rw [if_neg (by omega)]
    rw [ends, led1 _ _ e0, tails, List.filter_append, List.filter_map, List.filter_map, ends_tails j _ (by omega), ends_tails j _ (by omega)]
    have ed : st.drop (st.length - (j + 1)) = st.getD (st.length - 1 - j) [] :: st.drop (st.length - j) := by
      rw [show st.length - (j + 1) = st.length - 1 - j by omega, drop_get (by omega), show st.length - 1 - j + 1 = st.length - j by omega]
    rw [ed]
    rfl
theorem ends_words {st : List (List Int)} {m : Nat} (h : 1 ≤ st.length) (r : List Int) : ends st m st.length r = (words st.length).filter fun s => decide (ledAll st r s = List.replicate m 0) := by
  obtain ⟨n, hn⟩ : ∃ n, st.length = n + 1 := ⟨st.length - 1, by omega⟩
  have e0 : sgs (st.length - 1 - n) = [1] := by
    unfold sgs
    rw [if_pos (by omega)]
  rw [words_eq h]
  have : ends st m st.length r = ends st m (n + 1) r := by rw [hn]
  rw [this, ends, e0, List.flatMap_cons, List.flatMap_nil, List.append_nil, ends_tails n _ (by omega), List.filter_map, hn, Nat.add_sub_cancel]
  have ed : st = st.getD (n + 1 - 1 - n) [] :: st.drop (n + 1 - n) := by
    have := drop_get (st := st) (k := 0) (by omega)
    rw [List.drop_zero] at this
    rw [show n + 1 - 1 - n = 0 by omega, show n + 1 - n = 0 + 1 by omega]
    exact this
  congr 1
  apply congrArg (fun p => (tails n).filter p)
  funext e
  show _ = decide (ledAll st r (1 :: e) = _)
  conv => rhs; rw [ed]
  rfl
/-- one column's sum -/
def idot : List Int → List Int → Int
  | c :: cs, x :: s => x * c + idot cs s
  | _, _ => 0
theorem ledAll_at : ∀ (as : List (List Int)) (r s : List Int) (i : Nat), i < r.length → (ledAll as r s).length = r.length ∧ (ledAll as r s).getD i 0 = r.getD i 0 + idot (as.map fun a => a.getD i 0) s
  | [], r, s, i, _ => by simp [ledAll, idot]
  | a :: as, r, [], i, _ => by simp [ledAll, idot]
  | a :: as, r, x :: s, i, hi => by
    obtain ⟨h1, h2⟩ := ledAll_at as (led r a x) s i (by rw [led_len]; exact hi)
    refine ⟨by rw [ledAll, h1, led_len], ?_⟩
    rw [ledAll, h2]
    have e : (led r a x).getD i 0 = r.getD i 0 + x * a.getD i 0 := by
      unfold led
      rw [List.getD_eq_getElem?_getD, List.getElem?_map, List.getElem?_range hi]
      rfl
    rw [e, List.map_cons]
    show _ = r.getD i 0 + (x * a.getD i 0 + idot (as.map fun a => a.getD i 0) s)
    omega
theorem ledAll_len (as : List (List Int)) : ∀ (r s : List Int), (ledAll as r s).length = r.length := by
  induction as with
  | nil => intro r s; simp [ledAll]
  | cons a as ih =>
    intro r s
    cases s with
    | nil => simp [ledAll]
    | cons x s => rw [ledAll, ih, led_len]
theorem ledAll_zero {as : List (List Int)} {m : Nat} {s : List Int} : ledAll as (List.replicate m 0) s = List.replicate m 0 ↔ ∀ i, i < m → idot (as.map fun a => a.getD i 0) s = 0 := by
  constructor
  · intro h i hi
    have := (ledAll_at as (List.replicate m 0) s i (by simpa using hi)).2
    rw [h] at this
    omega
  · intro h
    apply List.ext_getElem
    · rw [ledAll_len]
    · intro i h1 h2
      have hi : i < m := by simpa using h2
      have := (ledAll_at as (List.replicate m 0) s i (by simpa using hi)).2
      rw [h i hi, List.getD_eq_getElem?_getD, List.getElem?_eq_getElem h1, List.getD_eq_getElem?_getD, List.getElem?_eq_getElem h2] at this
      simpa using this
/-- a column of whole numbers against the ratios -/
theorem idot_dot (f : Rat → Int) (b : Rat) : ∀ (ls : List Rat) (s : List Int) (t : List Rat), (∀ q ∈ List.zipWith (· * ·) ls t, ((f q : Int) : Rat) = q * b) → ls.length = s.length → t.length = s.length → ((idot ((List.zipWith (· * ·) ls t).map f) s : Int) : Rat) = dot ls s t * b
  | [], [], [], _, _, _ => by simp [idot, dot]
  | l :: ls, x :: s, y :: t, h, h1, h2 => by
    have ih := idot_dot f b ls s t (fun q hq => h q (by rw [List.zipWith_cons_cons]; exact List.mem_cons_of_mem _ hq)) (by simpa using h1) (by simpa using h2)
    have h0 := h (l * y) (by rw [List.zipWith_cons_cons]; exact List.mem_cons_self)
    rw [List.zipWith_cons_cons, List.map_cons]
    show ((x * f (l * y) + idot ((List.zipWith (· * ·) ls t).map f) s : Int) : Rat) = (l * (x : Int) * y + dot ls s t) * b
    rw [Rat.intCast_add, Rat.intCast_mul, ih, h0]
    grind
  | [], _ :: _, _, _, h, _ => by simp at h
  | _ :: _, [], _, _, h, _ => by simp at h
  | _, [], _ :: _, _, _, h => by simp at h
  | _, _ :: _, [], _, _, h => by simp at h
theorem ents_zip : ∀ (ls t ms : List Rat), ls.length = t.length → ents ⟨ls, ms⟩ t = List.zipWith (· * ·) ls t
  | [], [], _, _ => rfl
  | l :: ls, y :: t, ms, h => by
    have ih := ents_zip ls t ms (by simpa using h)
    unfold ents at ih ⊢
    rw [List.length_cons, List.range_succ_eq_map, List.map_cons, List.map_map, List.zipWith_cons_cons, ← ih]
    rfl
  | [], _ :: _, _, h => by simp at h
  | _ :: _, [], _, h => by simp at h
theorem col_noise {L : Ln} {s : List Int} {t : List Rat} (h1 : L.ls.length = s.length) (h2 : t.length = s.length) : idot (colF (ents L t)) s = 0 ↔ noise L.ls s t = 0 := by
  have hz : ents L t = List.zipWith (· * ·) L.ls t := ents_zip L.ls t L.ms (by omega)
  have hb := botF_pos' (ents L t)
  have h := idot_dot (fun q => q.num * ((botF (ents L t) / q.den : Nat) : Int)) ((botF (ents L t) : Nat) : Rat) L.ls s t (fun q hq => by
    rw [← hz] at hq
    obtain ⟨n, hn⟩ := List.getElem?_of_mem hq
    exact colF_at hn) h1 h2
  rw [noise_dot _ _ _ h1 h2]
  have e : idot (colF (ents L t)) s = idot ((List.zipWith (· * ·) L.ls t).map fun q => q.num * ((botF (ents L t) / q.den : Nat) : Int)) s := by
    show idot ((ents L t).map _) s = _
    rw [hz]
  rw [← e] at h
  have hb0 : ((botF (ents L t) : Nat) : Rat) ≠ 0 := by
    intro z
    have : ((botF (ents L t) : Nat) : Rat) = ((0 : Nat) : Rat) := z
    have := Rat.natCast_inj.mp this
    omega
  constructor
  · intro z
    rw [z] at h
    have h : dot L.ls s t * ((botF (ents L t) : Nat) : Rat) = 0 := by rw [← h]; rfl
    rcases Rat.mul_eq_zero.mp h with q | q
    · exact q
    · exact absurd q hb0
  · intro z
    rw [z, Rat.zero_mul] at h
    have : ((idot (colF (ents L t)) s : Int) : Rat) = ((0 : Int) : Rat) := h
    exact Rat.intCast_inj.mp this
theorem steps_col {L : Ln} {hs : List (List Rat)} {i : Nat} {t : List Rat} (hi : hs[i]? = some t) (hl : t.length = L.ls.length) : (steps L hs).map (fun a => a.getD i 0) = colF (ents L t) := by
  have hlen : (colF (ents L t)).length = L.ls.length := by unfold colF; rw [List.length_map, ents_len, hl]
  apply List.ext_getElem?
  intro k
  unfold steps
  rw [List.map_map, List.getElem?_map]
  rcases Nat.lt_or_ge k L.ls.length with z | z
  · rw [List.getElem?_range z]
    show some ((stepAt L hs k).getD i 0) = _
    unfold stepAt
    rw [List.getD_eq_getElem?_getD, List.getElem?_map, hi]
    show some ((colF (ents L t)).getD k 0) = _
    rw [List.getD_eq_getElem?_getD, List.getElem?_eq_getElem (by omega)]
    rfl
  · rw [List.getElem?_eq_none (by simpa using z), List.getElem?_eq_none (by omega)]
    rfl
def dueL (L : Ln) (d : Nat) : List (List Int) := (words L.ls.length).filter fun s => decide (d ≤ lawOrd L s)
theorem hums_at {L : Ln} {d i : Nat} (h : i < d) : (hums L d)[i]? = some (hum L i) := by
  unfold hums
  rw [List.getElem?_map, List.getElem?_range h]
  rfl
theorem hums_len (L : Ln) (d : Nat) : (hums L d).length = d := by unfold hums; rw [List.length_map, List.length_range]
/-- THE LIST: what hushed_words lists -/
theorem hush_due {L : Ln} (h : LnB L) {d : Nat} : hushL L (hums L d) = dueL L d := by
  obtain ⟨c, ok, hc, h8⟩ := h
  have hl := steps_len L (hums L d)
  have e := ends_words (st := steps L (hums L d)) (m := (hums L d).length) (by rw [hl]; exact ok.l1) (List.replicate (hums L d).length 0)
  rw [hush_ends, e, hl]
  apply List.filter_congr
  intro s hs
  obtain ⟨hw, hsl⟩ := (words_mem ok.l1 ok.l24).mp hs
  have hf : Fits L s := ⟨hsl.symm, by rw [← ok.len]; exact hsl.symm⟩
  rw [decide_eq_decide, lawOrd_ge ok hw.toSigns hsl, ledAll_zero, hums_len]
  constructor
  · intro h p hp
    have := h p hp
    rw [steps_col (hums_at hp) (by unfold hum; rw [List.length_map, ok.len]), col_noise hf.a (by unfold hum; rw [List.length_map]; exact hf.b)] at this
    exact this
  · intro h p hp
    rw [steps_col (hums_at hp) (by unfold hum; rw [List.length_map, ok.len]), col_noise hf.a (by unfold hum; rw [List.length_map]; exact hf.b)]
    exact h p hp
theorem words_len (n : Nat) : (words n).length = 2 ^ (n - 1) := by unfold words; rw [List.length_map, List.length_range]
theorem due_len {L : Ln} (h : LnB L) (d : Nat) : (dueL L d).length ≤ 128 := by
  have h1 : (dueL L d).length ≤ (words L.ls.length).length := List.length_filter_le _ _
  rw [words_len] at h1
  have h8 := h.n8
  have : 2 ^ (L.ls.length - 1) ≤ 2 ^ 7 := Nat.pow_le_pow_right (by decide) (by omega)
  omega
theorem tot_due {L : Ln} (h : LnB L) (d : Nat) : tot L (hums L d) = ((dueL L d).length : Nat) := by
  rw [← hush_due h]
  unfold hushL
  rw [List.length_map, List.length_range]
  have : 0 ≤ tot L (hums L d) := cnt_nonneg ..
  omega
theorem hu_b {L : Ln} (h : LnB L) {d : Nat} (h1 : 1 ≤ d) (h6 : d ≤ 6) : HuB L (hums L d) := ⟨fun t ht => by
  obtain ⟨p, hp, rfl⟩ := List.mem_map.mp (show t ∈ (List.range d).map (hum L) from ht)
  have : p < d := List.mem_range.mp hp
  exact h.wh (by omega), h.n8, hums_ok h h1 h6⟩
theorem hu_ok {L : Ln} (h : LnB L) {d : Nat} (h1 : 1 ≤ d) (h6 : d ≤ 6) : HuOk L (hums L d) := by
  obtain ⟨a, b, c⟩ := hu_b h h1 h6
  refine ⟨a, b, c, ?_⟩
  rw [tot_due h]
  have := due_len h d
  omega
end K79
set_option Elab.async false
set_option linter.all false
set_option maxRecDepth 100000
/-! KM: sorted of a list of lists of ints. -/
namespace K79
open PySem L2
open PyProof.Rows (envOfC)
abbrev iD (r : List Int) : PyData := .list (r.map .int)
abbrev tIs (K : PySem.W.Frag) (r : List Int) : Ty := tLst K (r.map tI)
theorem dp_is {K : PySem.W.Frag} {r : List Int} : DpTy K (tIs K r) (iD r) := dp_lst (dp_map (fun _ => dp_int) r)
theorem each_of {K : PySem.W.Frag} {S : Hp} : ∀ {rs : List (List Int)} {xs : List V} {us : List Value}, All2 (rs.map (tIs K)) xs S → Vals xs us → PySem.W.EachIs (fun u r => ∃ x, RelV x u ∧ (tIs K r).p x S) us rs
  | [], _, _, h, r => by
    cases h
    cases r
    exact .nil
  | _ :: _, _, _, h, r => by
    cases h with
    | cons h1 h2 =>
      cases r with
      | cons r1 r2 => exact .cons ⟨_, r1, h1⟩ (each_of h2 r2)
theorem of_each {K : PySem.W.Frag} {S : Hp} : ∀ {rs : List (List Int)} {us : List Value}, PySem.W.EachIs (fun u r => ∃ x, RelV x u ∧ (tIs K r).p x S) us rs → ∃ xs, All2 (rs.map (tIs K)) xs S ∧ Vals xs us
  | [], _, h => by
    cases h
    exact ⟨[], .nil, .nil⟩
  | _ :: _, _, h => by
    cases h with
    | cons h1 h2 =>
      obtain ⟨x, r, t⟩ := h1
      obtain ⟨xs, a, v⟩ := of_each h2
      exact ⟨x :: xs, .cons t a, .cons r v⟩
def leR (a b : List Int) : Bool := decide (a ≤ b)
section
variable {X : Cx}
def rSortR (K : PySem.W.Frag) : List V → Hp → VK → Prop := fun vs H Q => ∃ (a : Addr) (xs : List V) (S : Hp) (rs : List (List Int)), vs = [V.ref a] ∧ SqL K H a xs ∧ Same S H ∧ All2 (rs.map (tIs K)) xs S ∧ ∀ zs p, All2 ((rs.mergeSort leR).map (tIs K)) zs S → H p = none → Q (.ref p) (upd H p (.lst zs))
theorem cr_sortR (hu : X.A.units + 64 < cLine) : CallR X (.builtin "sorted") (rSortR X.K) := by
  intro pins s σ H vs us Q I r h
  obtain ⟨a, xs, S, rs, rfl, hs, i, ha, q⟩ := h
  obtain ⟨its, rv, hl, hz⟩ := I.list hs
  rw [Vals.ref1 r]
  have e := each_of ha rv
  have dep : ∀ b : List Int, (iD b).depth = 1 := fun b => by simp only [PyData.depth, depth_ints]
  have al : PySem.W.AllAlike (rs.map iD) := PySem.W.AllAlike.of fun b b' => by
    show PySem.W.alike (.list (b.map .int)) (.list (b'.map .int)) = true
    rw [PySem.W.alike]
    exact PySem.W.alike_ints b b'
  have le : PySem.W.dataLe false iD = leR := PySem.W.dataLe_rows (fun b : List Int => b)
  refine PySem.W.sorted_data (enc := iD) hl.isList e (e.mono fun u r ⟨x, rx, tx⟩ => Dp.reads I _ x u (dp_is _ _ ((tIs X.K r).m i tx)) rx) al (PySem.W.Sortable.others fun b => ⟨(fun z => nomatch z), fun xs z => nomatch z⟩) ?_ (fun b _ => by rw [dep]; omega) fun out hlen h1 => ?_
  · rw [← e.length, ← rv.length]
    exact hz
  · rw [le] at h1
    obtain ⟨zs, h2, h3⟩ := of_each h1
    obtain ⟨ep, he'⟩ := PyProof.Rows.sortedAll_at s.heap its out.toArray
    have hlen2 : zs.length ≤ sizeLine := by
      rw [h3.length, hlen, ← e.length, ← rv.length]
      exact hz
    exact ⟨.ref _, upd H (s.heap.objs.size + 1) (.lst zs), I.laid (t' := s.toks) (fun _ _ => PyProof.Rows.sortedAll_old) (Nat.le_succ _) ⟨hlen2, out, ep, h3, he'⟩, rfl, q _ _ h2 (I.hok.fresh (Nat.le_succ _))⟩
end
section
variable {X : Cx} {O : Owns} {Γ : Env} {e : Expr} {p pos : Pos}
theorem et_sortR {rs : List (List Int)} (hu : X.A.units + 64 < cLine) (hm : X.mg "sorted" = none) (ha : ETy X O Γ e (tLst X.K (rs.map (tIs X.K)))) (hg : Gl X "sorted" := by rfl) (hs : starEach (e :: []) X.env = (false, eval e X.env) :: starEach [] X.env := by rfl) : ETy X O Γ (.Call (.Name "sorted" p) [e] [] pos) (tLst X.K ((rs.mergeSort leR).map (tIs X.K))) :=
  et_callB (cr_sortR hu) hm (by decide +kernel) (at_one ha hs) (fun vs S H Q h i q => by
    obtain ⟨x, rfl, a, xs, h1, h2, h3⟩ := all2_1 h
    subst h1
    exact ⟨a, xs, S, rs, rfl, same_l i h2, i, h3, fun zs p hz hp => q (.ref p) (upd S p (.lst zs)) _ (.new i hp) ⟨p, zs, rfl, SqL.of upd_same, hz.m (same_upd (i.free hp))⟩⟩) hg (he := hs)
end
end K79
set_option Elab.async false
set_option linter.all false
set_option maxRecDepth 100000
/-! M7: the due words of the line shifted, grown, backward; sorted; the even line. Plain Lean. -/
namespace K79
theorem due_mem {c : Nat} {L : Ln} (ok : LnOk c L) {d : Nat} {s : List Int} : s ∈ dueL L d ↔ (Word s ∧ s.length = L.ls.length) ∧ Quiet L s d := by
  unfold dueL
  rw [List.mem_filter, words_mem ok.l1 ok.l24, decide_eq_true_iff]
  constructor
  · rintro ⟨⟨h1, h2⟩, h3⟩
    exact ⟨⟨h1, h2⟩, (lawOrd_ge ok h1.toSigns h2 d).mp h3⟩
  · rintro ⟨⟨h1, h2⟩, h3⟩
    exact ⟨⟨h1, h2⟩, (lawOrd_ge ok h1.toSigns h2 d).mpr h3⟩
theorem due_congr {c c' : Nat} {L M : Ln} (ok : LnOk c L) (ok' : LnOk c' M) (hl : M.ls.length = L.ls.length) {d : Nat} (h : ∀ s, Word s → s.length = L.ls.length → (Quiet M s d ↔ Quiet L s d)) : dueL M d = dueL L d := by
  unfold dueL
  rw [hl]
  apply List.filter_congr
  intro s hs
  obtain ⟨h1, h2⟩ := (words_mem ok.l1 ok.l24).mp hs
  rw [decide_eq_decide, lawOrd_ge ok h1.toSigns h2, lawOrd_ge ok' h1.toSigns (by rw [hl]; exact h2)]
  exact h s h1 h2
theorem fits_of {c : Nat} {L : Ln} (ok : LnOk c L) {s : List Int} (h : s.length = L.ls.length) : Fits L s := ⟨h.symm, by rw [← ok.len]; exact h.symm⟩
theorem due_shift {c m : Nat} {L : Ln} (ok : LnOk c L) {t : Rat} (zt : Sz m t) {d : Nat} : dueL (L.shift t) d = dueL L d :=
  due_congr ok (ok.shift zt) rfl fun s _ h => quiet_shift_iff (fits_of ok h) t
theorem due_grow {c m : Nat} {L : Ln} (ok : LnOk c L) {z : Rat} (hz : 0 < z) (zz : Sz m z) {d : Nat} : dueL (L.grow z) d = dueL L d :=
  due_congr ok (ok.grow hz zz) (by show (L.ls.map (· * z)).length = _; rw [List.length_map]) fun s _ h => quiet_grow_iff (fits_of ok h) hz
theorem back_back (L : Ln) : L.back.back = L := by
  unfold Ln.back
  simp only [List.reverse_reverse, List.map_reverse, List.map_map]
  congr 1
  have : ((fun q : Rat => -q) ∘ fun q => -q) = id := by
    funext q
    show -(-q) = q
    grind
  rw [this, List.map_id]
theorem sgn_sq {x : Int} (h : x = 1 ∨ x = -1) : x * x = 1 := by rcases h with rfl | rfl <;> rfl
theorem head_of {s : List Int} (h : Signs s) : s.headD 1 = 1 ∨ s.headD 1 = -1 := by
  cases s with
  | nil => exact .inl rfl
  | cons x t => exact h.sg x List.mem_cons_self
theorem signs_rev {s : List Int} (h : Signs s) : Signs s.reverse := ⟨by simpa using h.l1, by simpa using h.l24, fun x hx => h.sg x (by simpa using hx)⟩
theorem turned_word {s : List Int} (h : Signs s) : Word (turned s) := by
  refine ⟨⟨by simpa [turned] using h.l1, by simpa [turned] using h.l24, fun x hx => ?_⟩, ?_⟩
  · obtain ⟨y, hy, rfl⟩ := List.mem_map.mp (show x ∈ s.map fun x => s.headD 1 * x from hx)
    rcases head_of h with e | e <;> rcases h.sg y hy with e2 | e2 <;> rw [e, e2] <;> simp
  · cases s with
    | nil => have := h.l1; simp at this
    | cons x t =>
      show some (x * x) = some 1
      rw [sgn_sq (h.sg x List.mem_cons_self)]
theorem turned_turned {w : List Int} (h : Word w) : turned (turned w.reverse).reverse = w := by
  have hs := head_of (signs_rev h.toSigns)
  generalize hl : w.reverse.headD 1 = l at hs
  have e1 : turned w.reverse = w.reverse.map fun x => l * x := by unfold turned; rw [hl]
  rw [e1, ← List.map_reverse, List.reverse_reverse]
  have e2 : (w.map fun x => l * x).headD 1 = l := by
    cases w with
    | nil => have := h.l1; simp at this
    | cons x t =>
      have hx : x = 1 := by simpa using h.hd
      show l * x = l
      rw [hx, Int.mul_one]
  unfold turned
  rw [e2, List.map_map]
  have e3 : ((fun x : Int => l * x) ∘ fun x => l * x) = id := by
    funext x
    show l * (l * x) = x
    rw [← Int.mul_assoc, sgn_sq hs, Int.one_mul]
  rw [e3, List.map_id]
theorem back_due {c : Nat} {L : Ln} (ok : LnOk c L) {d : Nat} {w : List Int} (h : w ∈ dueL L d) : turned w.reverse ∈ dueL L.back d := by
  obtain ⟨⟨h1, h2⟩, h3⟩ := (due_mem ok).mp h
  refine (due_mem ok.back).mpr ⟨⟨turned_word (signs_rev h1.toSigns), ?_⟩, quiet_back (fits_of ok h2) h3⟩
  show (w.reverse.map _).length = L.ls.reverse.length
  simp [h2]
/-! ### order of words -/
def negs (s : List Int) : List Int := s.map fun x => -x
theorem negs_negs (s : List Int) : negs (negs s) = s := by
  unfold negs
  rw [List.map_map]
  have : ((fun x : Int => -x) ∘ fun x => -x) = id := by
    funext x
    show - -x = x
    omega
  rw [this, List.map_id]
theorem tails_up : ∀ j, ((tails j).map negs).Pairwise (· < ·)
  | 0 => List.pairwise_singleton _ _
  | j + 1 => by
    have ih := tails_up j
    rw [tails, List.map_append, List.pairwise_append, List.map_map, List.map_map]
    refine ⟨?_, ?_, ?_⟩
    · rw [List.pairwise_map] at ih ⊢
      exact ih.imp fun {a b} h => List.cons_lt_cons_iff.mpr (.inr ⟨rfl, h⟩)
    · rw [List.pairwise_map] at ih ⊢
      exact ih.imp fun {a b} h => List.cons_lt_cons_iff.mpr (.inr ⟨rfl, h⟩)
    · intro a ha b hb
      obtain ⟨x, _, rfl⟩ := List.mem_map.mp ha
      obtain ⟨y, _, rfl⟩ := List.mem_map.mp hb
      exact List.cons_lt_cons_iff.mpr (.inl (show (-(1 : Int)) < -(-1) by decide))
theorem words_up {n : Nat} (h : 1 ≤ n) : ((words n).map negs).Pairwise (· < ·) := by
  have ih := tails_up (n - 1)
  rw [words_eq h, List.map_map]
  rw [List.pairwise_map] at ih ⊢
  exact ih.imp fun {a b} h => List.cons_lt_cons_iff.mpr (.inr ⟨rfl, h⟩)
theorem due_up {c : Nat} {L : Ln} (ok : LnOk c L) (d : Nat) : ((dueL L d).map negs).Pairwise (· < ·) := by
  have h := words_up ok.l1
  rw [List.pairwise_map] at h ⊢
  exact h.sublist List.filter_sublist
theorem ne_of_ltL {a b : List Int} (h : a < b) : a ≠ b := fun z => by
  subst z
  exact List.lt_irrefl _ h
theorem due_nodup {c : Nat} {L : Ln} (ok : LnOk c L) (d : Nat) : (dueL L d).Nodup := by
  have h := due_up ok d
  rw [List.pairwise_map] at h
  exact List.nodup_iff_pairwise_ne.mpr (h.imp fun {a b} hh (z : a = b) => ne_of_ltL hh (congrArg negs z))
theorem leR_trans (a b c : List Int) (h1 : leR a b = true) (h2 : leR b c = true) : leR a c = true := decide_eq_true (List.le_trans (of_decide_eq_true h1) (of_decide_eq_true h2))
theorem leR_total (a b : List Int) : (leR a b || leR b a) = true := by
  rcases List.le_total a b with h | h
  · simp [leR, h]
  · simp [leR, h]
/-- THE WAY BACK: sorted and negated, the backs of the due words are the due words of the backward line -/
theorem sorted_back {c : Nat} {L : Ln} (ok : LnOk c L) (d : Nat) : (((dueL L d).map fun w => negs (turned w.reverse)).mergeSort leR).map negs = dueL L.back d := by
  have key : ((dueL L d).map fun w => negs (turned w.reverse)).mergeSort leR = (dueL L.back d).map negs := by
    refine List.Perm.eq_of_pairwise (le := fun a b => a ≤ b) (fun a b _ _ h1 h2 => List.le_antisymm h1 h2) ?_ ?_ ?_
    · exact (List.pairwise_mergeSort leR_trans leR_total _).imp fun {a b} h => of_decide_eq_true h
    · exact (due_up ok.back d).imp fun {a b} h => List.le_of_lt h
    · refine (List.mergeSort_perm _ leR).trans ?_
      have e : ((dueL L d).map fun w => negs (turned w.reverse)) = ((dueL L d).map fun w => turned w.reverse).map negs := by rw [List.map_map]; rfl
      rw [e]
      refine List.Perm.map negs ?_
      have hw : ∀ w ∈ dueL L d, Word w := fun w h => ((due_mem ok).mp h).1.1
      rw [List.perm_ext_iff_of_nodup ?_ (due_nodup ok.back d)]
      · intro v
        constructor
        · intro h
          obtain ⟨w, h1, rfl⟩ := List.mem_map.mp h
          exact back_due ok h1
        · intro h
          have h1 := back_due ok.back h
          rw [back_back] at h1
          exact List.mem_map.mpr ⟨_, h1, turned_turned ((due_mem ok.back).mp h).1.1⟩
      · rw [List.nodup_iff_pairwise_ne, List.pairwise_map]
        refine (List.nodup_iff_pairwise_ne.mp (due_nodup ok d)).imp_of_mem fun {a b} ha hb hne z => hne ?_
        rw [← turned_turned (hw a ha), ← turned_turned (hw b hb), z]
  rw [key, List.map_map]
  have : (negs ∘ negs) = id := funext negs_negs
  rw [this, List.map_id]
/-! ### the even line -/
theorem even_low : ∀ n ∈ [1, 2, 3, 4, 5, 6, 7], ∀ s ∈ words n, lawOrd (even n) s < pw n := by decide +kernel
theorem even_due {n d : Nat} (h1 : 1 ≤ n) (h8 : n ≤ 8) (h6 : d ≤ 6) (h : pw n ≤ d) : dueL (even n) d = [] := by
  have hn : n ≠ 8 := fun z => by
    subst z
    have : pw 8 = 8 := rfl
    omega
  unfold dueL
  rw [show (even n).ls.length = n by simp [even]]
  refine List.filter_eq_nil_iff.mpr fun s hs => ?_
  have := even_low n (by simp; omega) s hs
  rw [decide_eq_true_iff]
  omega
/-! ### the due words by number, and the least crossed -/
theorem due_pick {L : Ln} (h : LnB L) {d k : Nat} (hk : k < (dueL L d).length) : (dueL L d)[k]? = some (pick (steps L (hums L d)) (hums L d).length (k : Nat)) ∧ numW (steps L (hums L d)) (hums L d).length (pick (steps L (hums L d)) (hums L d).length (k : Nat)) = (k : Nat) := by
  have ht := tot_due h d
  have hv : ((k : Nat) : Int) < cnt (steps L (hums L d)) (hums L d).length (steps L (hums L d)).length (List.replicate (hums L d).length 0) := by
    show _ < tot L (hums L d)
    omega
  refine ⟨?_, num_pick (by omega) hv⟩
  rw [← hush_due h, hush_ends]
  have := pick_ends (by omega) hv
  rwa [show ((k : Nat) : Int).toNat = k by omega] at this
theorem fw_due {L : Ln} (h : LnB L) {d : Nat} : (dueL L d = [] → fw (steps L (hums L d)) (hums L d).length (steps L (hums L d)).length (List.replicate (hums L d).length 0) 1 = none) ∧ (dueL L d ≠ [] → ∃ c, fw (steps L (hums L d)) (hums L d).length (steps L (hums L d)).length (List.replicate (hums L d).length 0) 1 = some c ∧ lcW (steps L (hums L d)) (hums L d).length ∈ dueL L d ∧ (pc (lcW (steps L (hums L d)) (hums L d).length) : Int) = c ∧ ∀ e ∈ dueL L d, c ≤ (pc e : Int)) := by
  have he : dueL L d = ends (steps L (hums L d)) (hums L d).length (steps L (hums L d)).length (List.replicate (hums L d).length 0) := by rw [← hush_due h, hush_ends]
  obtain ⟨c0, ok, _, _⟩ := h
  obtain ⟨f1, f2⟩ := fw_ends (steps L (hums L d)) (hums L d).length (steps L (hums L d)).length (List.replicate (hums L d).length 0) 1
  have one : ∀ e ∈ dueL L d, pc (1 :: e) = pc e := fun e h => by
    have hw := ((due_mem ok).mp h).1.1
    cases e with
    | nil => rfl
    | cons x t =>
      have hx : x = 1 := by simpa using hw.hd
      subst hx
      show (if (1 : Int) = 1 then 0 else 1) + pc (1 :: t) = _
      rw [if_pos rfl, Nat.zero_add]
  cases z : fw (steps L (hums L d)) (hums L d).length (steps L (hums L d)).length (List.replicate (hums L d).length 0) 1 with
  | none => exact ⟨fun _ => rfl, fun y => absurd (he.trans (f2 z)) y⟩
  | some c =>
    obtain ⟨⟨e, h1, h2⟩, h3⟩ := f1 c z
    obtain ⟨l1, l2⟩ := least_ends z
    refine ⟨fun y => ?_, fun _ => ⟨c, rfl, by rw [he]; exact l1, ?_, fun e' q => ?_⟩⟩
    · rw [← he, y] at h1
      cases h1
    · rw [← one _ (by rw [he]; exact l1)]
      exact l2
    · rw [← one _ q]
      rw [he] at q
      exact h3 e' q
end K79
set_option Elab.async false
set_option linter.all false
set_option maxRecDepth 100000
/-! D21: _law_same, _law_numbered. -/
namespace K79
open PySem L2
open PyProof.Rows (envOfC)
section
variable {P : Program} {w : World} {K : PySem.W.Frag} {mg : Str → Option Value} {base : Heap}
theorem due_word {L : Ln} (h : LnB L) {d : Nat} : ∀ s ∈ dueL L d, Word s := fun s hs => by
  obtain ⟨c, ok, _, _⟩ := h
  exact ((due_mem ok).mp hs).1.1
abbrev spLSame (K : PySem.W.Frag) : Sp := spT (α := Ln × Nat) (fun x => [tLine K x.1, tI x.2, tLst K ((dueL x.1 x.2).map (tW K))]) (fun x => LnB x.1 ∧ 1 ≤ x.2 ∧ x.2 ≤ 6) (fun _ => tBl true)
theorem sc_lsame : FnScope ["_law_made", "_law_degree", "_law_due"] ["_law_made", "_law_degree", "_law_due"] (defScope sLLawSame) := ⟨rfl, rfl, rfl, by decide +kernel, rfl, by decide +kernel, by decide +kernel⟩
theorem fn_lsame (T : Txt K mg) : Fn P w K mg base "_law_same" 13 ["_law_made", "_law_degree", "_law_due"] [] (spLSame K) := by
  refine fn_of' T.d__law_same (fun kV doc pm an cdv ct us h => match us, h with | [_, _, _], _ => rfl) sc_lsame (fun _ => rfl) fun f cdv Ar outer s H E x pre hr S D hR _ => ?_
  obtain ⟨L, d⟩ := x
  obtain ⟨hB, h1, h6⟩ : LnB L ∧ 1 ≤ d ∧ d ≤ 6 := pre
  show BTy _ _ _ _ [some (tLine K L), some (tI d), some (tLst K ((dueL L d).map (tW K)))] _ _
  have hd := due_len hB d
  exact bt_ret (et_call (x := dueL L d) (fn_lare T) (hr.mono (by decide)) ⟨show (dueL L d).length ≤ 9999 by omega, due_word hB⟩ (at_cons (et_eq (et_hushed (L := L) (hs := hums L d) T hr (hu_ok hB h1 h6) (at_cons (et_var 0) (at_one (et_call (x := (L, d)) (fn_degree T) (hr.mono (by decide)) ⟨hB, h1, h6⟩ (at_cons (et_var 0) (at_one (et_var 1))))))) (by rw [hush_due hB])) (at_one (et_var 2)))) hR
/-! ### _law_numbered -/
abbrev spLNumbered (K : PySem.W.Frag) : Sp := spT (α := Ln × Nat) (fun x => [tHand K, tLine K x.1, tSpan K (hums x.1 x.2), tLst K ((dueL x.1 x.2).map (tW K))]) (fun x => LnB x.1 ∧ 1 ≤ x.2 ∧ x.2 ≤ 6) (fun _ => tBl true)
abbrev nLNumbered : List Str := ["_law_hand_here", "_law_made", "_law_span", "_law_due", "_law_at", "_law_told", "_law_bits", "_law_sign", "_law_lone", "_law_fewest", "_law_word"]
theorem sc_lnumbered : FnScope nLNumbered ["_law_hand_here", "_law_made", "_law_span", "_law_due"] (defScope sLLawNumbered) := ⟨rfl, rfl, rfl, by decide +kernel, rfl, by decide +kernel, by decide +kernel⟩
theorem bits_step (b q : Int) : 2 * b + b2n (decide (q = -1)) = b * 2 + bitOf q := by
  unfold bitOf
  by_cases h : q = -1
  · rw [decide_eq_true h, if_pos h]; show 2 * b + 1 = b * 2 + 1; omega
  · rw [decide_eq_false h, if_neg h]; show 2 * b + 0 = b * 2 + 0; omega
set_option maxHeartbeats 2000000 in
theorem fn_lnumbered (T : Txt K mg) : Fn P w K mg base "_law_numbered" 13 ["_law_hand_here", "_law_made", "_law_span", "_law_due"] [] (spLNumbered K) := by
  have nd : nLNumbered.Nodup := by decide +kernel
  refine fn_of' T.d__law_numbered (fun kV doc pm an cdv ct us h => match us, h with | [_, _, _, _], _ => rfl) sc_lnumbered (fun _ => rfl) fun f cdv Ar outer s H E x pre hr S D hR _ => ?_
  obtain ⟨L, d⟩ := x
  obtain ⟨hB, h1, h6⟩ : LnB L ∧ 1 ≤ d ∧ d ≤ 6 := pre
  show BTy _ _ _ _ [some (tHand K), some (tLine K L), some (tSpan K (hums L d)), some (tLst K ((dueL L d).map (tW K))), none, none, none, none, none, none, none] _ _
  have hdl := due_len hB d
  have hHu := hu_b hB h1 h6
  have ht := tot_due hB d
  obtain ⟨fw0, fw1⟩ := fw_due hB (d := d)
  have hword := due_word hB (d := d)
  have numPre : ∀ s ∈ dueL L d, HuB L (hums L d) ∧ Word s ∧ s.length = L.ls.length ∧ ∀ h ∈ hums L d, NzOk L.ls s h ∧ noise L.ls s h = 0 := fun s hs => by
    obtain ⟨c, ok, hc, h8⟩ := id hB
    obtain ⟨⟨a1, a2⟩, a3⟩ := (due_mem ok).mp hs
    refine ⟨hHu, a1, a2, fun h hh => ?_⟩
    obtain ⟨p, hp, rfl⟩ := List.mem_map.mp (show h ∈ (List.range d).map (hum L) from hh)
    have hp : p < d := List.mem_range.mp hp
    exact ⟨hB.noise a1.toSigns a2 (by omega), a3 p hp⟩
  refine bt_lv (k := decide (dueL L d = [])) (tt_eq (tt_eqD (units64 hr) (dp_ws (l := dueL L d)) (dp_ws (l := [])) (wsD_shaped _) (wsD_shaped _) (et_var 3) (et_lst at_nil)) (eqv_ws _ _)) (fun h => ?_) (fun h => ?_)
  · have h : dueL L d = [] := of_decide_eq_true h
    refine bt_ret (et_eq (et_and (k := true) (l := true) (et_eq (et_eqI (et_call (x := (L, hums L d)) (fn_countH T) (hr.mono (by decide)) hHu (at_cons (et_var 1) (at_one (et_var 2)))) et_int) (congrArg tBl (decide_eq_true (by show tot L (hums L d) = 0; rw [ht, h]; rfl)))) (fun _ => et_one (et_eq (et_isN (v := .non) (et_eq (et_call (x := (L, hums L d)) (fn_least T) (hr.mono (by decide)) hHu (at_cons (et_var 1) (at_one (et_var 2)))) ?_)) (congrArg tBl (decide_eq_true rfl))))) rfl) hR
    unfold tLeast
    rw [fw0 h]
    rfl
  · have h : dueL L d ≠ [] := of_decide_eq_false h
    have hpos : 0 < (dueL L d).length := List.length_pos_iff.mpr h
    refine bt_set (T := tUp (dueL L d).length) 4 nd (et_call (x := ((dueL L d).length : Int)) (fn_take T) (hr.mono (by decide)) ⟨by omega, by omega⟩ (at_cons (et_var 0) (at_one (et_eq (et_lenL T.f_len (et_var 3)) (by rw [List.length_map]))))) ?_
    refine bt_ex 4 rfl fun v => ?_
    refine bt_when 4 rfl fun hv => ?_
    obtain ⟨k, rfl⟩ : ∃ k : Nat, v = (k : Nat) := ⟨v.toNat, by omega⟩
    have hk : k < (dueL L d).length := by omega
    obtain ⟨p1, p2⟩ := due_pick hB hk
    obtain ⟨q1, q2⟩ := due_pick hB hpos
    generalize hpw : pick (steps L (hums L d)) (hums L d).length (k : Nat) = wd at p1 p2
    generalize hpz : pick (steps L (hums L d)) (hums L d).length ((0 : Nat) : Int) = wz at q1 q2
    have hwd := List.mem_of_getElem? p1
    have hwz := List.mem_of_getElem? q1
    have hW := hword _ hwd
    have hl24 := hW.l24
    refine bt_set (T := tW K wd) 5 nd (et_eq (et_call (x := (L, hums L d, (k : Int))) (fn_byN T) (hr.mono (by decide)) ⟨hHu, show (0 : Int) ≤ k by omega, show (k : Int) < tot L (hums L d) by omega⟩ (at_cons (et_var 1) (at_cons (et_var 2) (at_one (et_var 4))))) (congrArg (tW K) hpw)) ?_
    refine bt_no (tt_w (wt_or2 (tt_neD (units64 hr) (dp_w (s := wd)) (dp_w (s := wd)) (wD_shaped _) (wD_shaped _) (et_var 5) (et_ixL (k := k) (et_var 3) (et_var 4) rfl (map_at p1))) (fun _ => wt_or2 (tt_ne (et_call (x := (L, hums L d, wd)) (fn_number T) (hr.mono (by decide)) (numPre wd hwd) (at_cons (et_var 1) (at_cons (et_var 2) (at_one (et_var 5))))) (et_var 4)) (fun _ => wt_or1 (tt_ne (et_call (x := (L, hums L d, wz)) (fn_number T) (hr.mono (by decide)) (numPre wz hwz) (at_cons (et_var 1) (at_cons (et_var 2) (at_one (et_ixL (k := 0) (et_var 3) et_int rfl (map_at q1)))))) et_int))))) ?_ ?_
    · rw [eqv_w]
      show (!decide (wd = wd) || (!decide (numW _ _ wd = (k : Int)) || !decide (numW _ _ wz = 0))) = false
      rw [p2, q2]
      simp
    refine bt_set 6 nd et_int ?_
    refine bt_forT (ts := (wd.drop 1).map tI) 7 (fun n => [some (tHand K), some (tLine K L), some (tSpan K (hums L d)), some (tLst K ((dueL L d).map (tW K))), some (tI k), some (tW K wd), some (tI (bits ((wd.drop 1).take n))), none, none, none, none]) (fun _ => []) nd PassesOwn.never (et_eq (et_fromT (i := 1) (et_ixL (T := tW K wd) (k := k) (et_var 3) (et_var 4) rfl (map_at p1)) et_int) (by rw [List.map_drop])) (.refl _) rfl (fun S1 H1 g n U hU => ?_) ?_
    · obtain ⟨q, e, rfl⟩ := at_map hU
      refine bt_set (T := tI (2 * bits ((wd.drop 1).take n) + b2n (decide (q = -1)))) 6 nd (et_add (et_mul (.inl (by decide)) et_int (et_var 6)) (et_intB T.f_int (et_eqI (et_var 7) (et_eq (et_neg et_int) rfl)))) ?_
      refine bt_turn (fun _ _ h => h) ?_
      rw [bits_take e, bits_step]
      exact el_eq (el_eq (el_eq (el_eq (el_eq (el_eq (el_eq (el_no (el_no (el_no (el_no el_nil))))))))))
    · rw [List.length_map, List.take_length]
      obtain ⟨c, f1, f2, f3, f4⟩ := fw1 h
      refine bt_set (T := tW K (lcW (steps L (hums L d)) (hums L d).length)) 8 nd (et_eq (et_call (x := (L, hums L d)) (fn_least T) (hr.mono (by decide)) hHu (at_cons (et_var 1) (at_one (et_var 2)))) (by unfold tLeast; rw [f1]; rfl)) ?_
      generalize hlc : lcW (steps L (hums L d)) (hums L d).length = lo at f2 f3
      have hLo := hword _ f2
      have hcm : c ∈ (dueL L d).map fun s => ((poles s).length : Int) := List.mem_map.mpr ⟨lo, f2, by rw [poles_pc]; exact f3⟩
      refine bt_set (T := tI c) 9 nd (et_min (ns := (dueL L d).map fun s => ((poles s).length : Int)) rfl T.f_min (et_eq (et_lcL (x := "_law_word") (k := 10) ⟨nd, blkOk_by (own := [("_law_word", 10)]) (N := nLNumbered) (sc := defScope sLLawNumbered) (by decide +kernel), rfl, rfl⟩ (dueL L d) (tW K) (fun s => tI ((poles s).length : Nat)) (fun _ => true) (et_var 3) (by omega) (fun y _ => ifs_nil) (fun y hy _ s0 H0 C cl fp => et_eq (et_lenT T.f_len (et_call (x := y) (fn_lpoles T) (hr.mono (by decide)) (hword y hy).toSigns (at_one (et_var 10)))) (by rw [List.length_map]))) (congrArg (tLst K) (map_map_ty (f := tI) (g := fun s => ((poles s).length : Int)) (dueL L d)))) (by rw [List.length_map]; exact hpos) (fun m hm1 hm2 => ?_)) ?_
      · obtain ⟨s, hs, rfl⟩ := List.mem_map.mp hm1
        have a1 := hm2 c hcm
        have a2 := f4 s hs
        rw [poles_pc] at a1 ⊢
        have : c = (pc s : Int) := by omega
        rw [this]
        exact Ty.le_refl _
      · refine bt_ret (et_eq (et_and (k := true) (l := true) (et_eq (et_eqI (et_call (x := wd) (fn_numberW T) (hr.mono (by decide)) hW (at_one (et_le (et_var 5) tW_S))) (et_var 6)) (congrArg tBl (decide_eq_true rfl))) (fun _ => et_and (k := true) (l := true) (et_eq (et_inD (units65 hr) (et_var 8) (et_var 3)) (congrArg tBl (decide_eq_true f2))) (fun _ => et_one (et_eq (et_eqI (et_lenT T.f_len (et_call (x := lo) (fn_crossings T) (hr.mono (by decide)) hLo (at_one (et_le (et_var 8) tW_S)))) (et_var 9)) (congrArg tBl (decide_eq_true ?_)))))) rfl) hR
        rw [List.length_map, poles_pc]
        exact f3
end
end K79
set_option Elab.async false
set_option linter.all false
set_option maxRecDepth 100000
/-! D22: law. -/
namespace K79
open PySem L2
open PyProof.Rows (envOfC)
section
variable {X : Cx} {O : Owns} {Γ : Env} {o e : Expr} {es : List Expr} {C f : Addr} {k : Nat} {ps : List Str} {α : Type} {A : α → List Ty} {Pre : α → Prop} {R : α → Ty} {m : Str} {fts : List (Str × Ty)} {T : Ty} {ap pos : Pos}
/-- o.m(e, ..), known by properties -/
theorem et_methX {pl : Sem Bool} (c : Cls X.K C) (hm : Meth X.K C m f) (F : FnA X.prog X.w X.K X.mg X.base f k ps (spT A Pre R)) (hr : Room k X.A) {ts : List Ty} (hx : ∀ v vs S, (tIns C fts).p v S → All2 ts vs S → ∃ x, Pre x ∧ All2 (A x) (v :: vs) S ∧ (R x).le T) (ho : ETy X O Γ o (tIns C fts)) (hn : fts.lookup m = none) (ha : ATy X O Γ (e :: es) ts)
    (hst : starEach (e :: es) X.env = (false, eval e X.env) :: starEach es X.env := by rfl) (hpl : (backTo pos (starEach es X.env)).any (·.1) = false := by rfl)
    (ht : eval (.Call (.Attribute o m ap) (e :: es) [] pos) X.env = (do
      let ov ← eval o X.env
      standAt ap.atName
      let (f, first) ← holding [ov] (getMethod ov m pl)
      callWith pos f first (backTo pos (starEach (e :: es) X.env)) (backToKw pos (keywordEach [] X.env))) := by rfl) : ETy X O Γ (.Call (.Attribute o m ap) (e :: es) [] pos) T := fun σ F0 S H Q g oo i q => by
  obtain ⟨fd, h4, h5⟩ := F.ex
  refine of_pe (pe_meth pe_w c hm h5 hr h4 .nil pass0 pa_w hst hpl ht) (ho σ F0 S H _ g oo i fun v S1 H1 g1 ⟨a, dx, fs, e1, e2, e3⟩ => ⟨a, dx, fs, e1, g1.i _ _ e2, e3.no hn, ?_⟩)
  refine ha σ F0 S1 H1 _ (g.m g1.s) (oo.grow g1) g1.i fun vs S2 H2 g2 t2 => ?_
  rw [List.append_nil]
  obtain ⟨x, pre, hA, hle⟩ := hx (.ref a) vs S2 ⟨a, dx, fs, rfl, g2.s _ _ e2, e3.m g2.s⟩ t2
  refine ⟨x, S2, g2.i, ?_, pre, fun v S' H' g3 t3 => q v S' H' ((g1.trans g2).trans g3) (hle _ _ t3)⟩
  subst e1
  exact hA
end
section
variable {P : Program} {w : World} {K : PySem.W.Frag} {mg : Str → Option Value} {base : Heap}
/-- a block within a block, that takes no name from without -/
theorem blk_in {N : List Str} {sc sc0 scope : Scope} {own : List (Str × Nat)} (h : blkC N sc0 scope own = true) (hf : ∀ y ∈ scope.names, y.2 ≠ .free) : BlkOk N sc scope own :=
  have b := blkOk_by h
  ⟨b.kind, b.uniq, b.ix, fun y hy e => absurd e (hf y hy), b.own⟩
theorem LnH.b {n : Nat} {L : Ln} (h : LnH n L) (h8 : n ≤ 8) : LnB L := ⟨34, h.1, by decide, by rw [h.2]; exact h8⟩
abbrev spLaw (K : PySem.W.Frag) : Sp := spT (α := List Int) (fun ns => [tLst K (ns.map tI)]) (fun ns => ns.length ≤ 90000) (fun _ => tBl true)
abbrev nLaw : List Str := ["_law_script", "_law_hand_here", "_law_count", "_law_line_here", "_law_made", "_law_degree", "_law_words", "_law_due", "_law_span", "_law_word", "_law_order_here", "_law_step", "_law_back_here", "_law_turned_here", "_law_k", "_law_sign"]
theorem sc_law : FnScope nLaw ["_law_script"] (defScope sLaw) := ⟨rfl, rfl, rfl, by decide +kernel, rfl, by decide +kernel, by decide +kernel⟩
theorem mem_count {v : Int} (h : v ∈ [4, 2, 3, 5, 6, 4, 1, 8]) : 1 ≤ v ∧ v ≤ 8 := by
  simp at h; omega
theorem mem_degree {v : Int} (h : v ∈ [1, 2, 1, 2, 3, 4, 5, 6]) : 1 ≤ v ∧ v ≤ 6 := by
  simp at h; omega
abbrev eLaw (K : PySem.W.Frag) (ns : List Int) (n d : Nat) (L : Ln) : Env := [some (tLst K (ns.map tI)), some (tHand K), some (tI n), some (tLn K L), some (tLine K L), some (tI d), some (tLst K ((words n).map (tW K))), some (tLst K ((dueL L d).map (tW K))), some (tSpan K (hums L d)), none, none, none, none, none, none, none]
section
variable {f : Addr} {cdv : Value} {Ar : Around} {outer : List PySem.Env} {s : Shared} {H S : Hp} {E : XK} {D : Ends} {ns : List Int} {n d : Nat} {L : Ln}
set_option maxHeartbeats 4000000 in
theorem law_c (T : Txt K mg) (hr : Room 13 (Ar.deeper (envOfC "law" (defScope sLaw) s.heap.objs.size f cdv))) (h8 : n ≤ 8) (hL : LnH n L) (d1 : 1 ≤ d) (d6 : d ≤ 6) (hR : RetOk S H (tBl true) D.rt) : BTy (Ct P w K mg base nLaw "law" sLaw f cdv Ar outer s H E) S H [] (eLaw K ns n d L) ((defBody sLaw).drop 14) D := by
  have nd : nLaw.Nodup := by decide +kernel
  have hB := hL.b h8
  have hn : L.ls.length = n := hL.2
  have hdl := due_len hB d
  have hword := due_word hB (d := d)
  obtain ⟨c, ok, hc, hl8⟩ := id hB
  have hBb : LnB L.back := ⟨c, ok.back, hc, by show L.ls.reverse.length ≤ 8; simpa using hl8⟩
  refine bt_set (T := tLine K L.back) 12 nd (et_meth0 T.clsLine T.m_backward (fn_lineBack T) (hr.mono (by decide)) L hB.ok rfl (et_var 4) rfl) ?_
  refine bt_forL (ts := (dueL L d).map (tW K)) 9 (fun _ => (eLaw K ns n d L).set 12 (some (tLine K L.back))) (fun _ => []) nd PassesOwn.never (et_var 7) (.refl _) rfl (fun S1 H1 g k U hU => ?_) ?_
  · obtain ⟨q, e, rfl⟩ := at_map hU
    have hq := hword q (List.mem_of_getElem? e)
    refine bt_no (tt_neD (units64 hr) (dp_w (s := turned q.reverse)) (dp_w (s := turned q.reverse)) (wD_shaped _) (wD_shaped _) (et_call (x := q) (fn_backwardW T) (hr.mono (by decide)) hq (at_one (et_le (et_var 9) tW_S))) (et_call (x := q) (fn_lback T) (hr.mono (by decide)) hq.toSigns (at_one (et_var 9)))) (by rw [eqv_w]; simp) ?_
    exact bt_turn (fun _ _ h => h) (el_eq (el_eq (el_eq (el_eq (el_eq (el_eq (el_eq (el_eq (el_eq (el_no (el_no (el_no (el_eq (el_no (el_no (el_no el_nil))))))))))))))))
  have inner : ∀ (s0 : Shared) (H0 : Hp) (C : Addr) (cl : List (Str × Addr)) (fp : List Addr), True := fun _ _ _ _ _ => trivial
  refine bt_set (T := tLst K ((((dueL L d).map fun w => negs (turned w.reverse)).mergeSort leR).map (tIs K))) 13 nd (et_sortR (units64 hr) T.f_sorted (et_eq (et_lcL (x := "_law_word") (k := 9) ⟨nd, blkOk_by (own := [("_law_word", 9)]) (N := nLaw) (sc := defScope sLaw) (by decide +kernel), rfl, rfl⟩ (dueL L d) (tW K) (fun w => tIs K (negs (turned w.reverse))) (fun _ => true) (et_var 7) (by omega) (fun y _ => ifs_nil) (fun y hy _ s0 H0 C cl fp => ?_)) (congrArg (tLst K) (map_map_ty (f := tIs K) (g := fun w => negs (turned w.reverse)) (dueL L d))))) ?_
  · have hy24 := (hword y hy).l24
    refine et_eq (et_lcT (x := "_law_sign") (k := 15) ⟨nd, blk_in (own := [("_law_sign", 15)]) (N := nLaw) (sc0 := defScope sLaw) ?_ ?_, rfl, rfl⟩ (turned y.reverse) tI (fun x => tI (-x)) (fun _ => true) (et_call (x := y) (fn_lback T) (hr.mono (by decide)) (hword y hy).toSigns (at_one (et_var 9))) (by simp [turned]; omega) (fun y _ => ifs_nil) (fun y hy _ s0 H0 C cl fp => et_neg (et_var 15))) (congrArg (tLst K) (map_map_ty (f := tI) (g := fun x => -x) (turned y.reverse)))
    · decide +kernel
    · decide +kernel
  have hsb := sorted_back ok d
  generalize ((dueL L d).map fun w => negs (turned w.reverse)).mergeSort leR = srt at hsb
  have hsl : srt.length ≤ 9999 := by
    have := congrArg List.length hsb
    rw [List.length_map] at this
    have := due_len hBb d
    omega
  have hsw : ∀ y ∈ srt, y.length ≤ 24 := fun y hy => by
    have : negs y ∈ dueL L.back d := by rw [← hsb]; exact List.mem_map.mpr ⟨y, hy, rfl⟩
    have := (due_word hBb (d := d) _ this).l24
    simpa [negs] using this
  refine bt_no (tt_not (tt_val (et_call (x := (L.back, d)) (fn_lsame T) (hr.mono (by decide)) ⟨hBb, d1, d6⟩ (at_cons (et_var 12) (at_cons (et_var 5) (at_one (et_eq (et_lcL (x := "_law_word") (k := 9) ⟨nd, blkOk_by (own := [("_law_word", 9)]) (N := nLaw) (sc := defScope sLaw) (by decide +kernel), rfl, rfl⟩ srt (tIs K) (fun r => tW K (negs r)) (fun _ => true) (et_var 13) (by omega) (fun y _ => ifs_nil) (fun y hy _ s0 H0 C cl fp => ?_)) ?_))))))) rfl ?_
  · have := hsw y hy
    refine et_tuple' T.f_tuple (et_eq (et_lcL (x := "_law_sign") (k := 15) ⟨nd, blk_in (own := [("_law_sign", 15)]) (N := nLaw) (sc0 := defScope sLaw) ?_ ?_, rfl, rfl⟩ y tI (fun x => tI (-x)) (fun _ => true) (et_var 9) (by omega) (fun y _ => ifs_nil) (fun y hy _ s0 H0 C cl fp => et_neg (et_var 15))) (congrArg (tLst K) (map_map_ty (f := tI) (g := fun x => -x) y)))
    · decide +kernel
    · decide +kernel
  · exact (congrArg (tLst K) (map_map_ty (f := tW K) (g := negs) srt)).trans (by rw [hsb]; rfl)
  -- the even line
  refine bt_no (k := false) (tt_eq (tt_w (wt_and2 (k := decide (L.ls = (even n).ls) && decide (L.ms = (even n).ms)) (l := (!decide (barV n d = .non)) && (!decide (dueL L d = []))) (tt_eq (tt_eqD (units64 hr) (dp_ln (L := L)) (dp_ln (L := even n)) (lnD_shaped _) (lnD_shaped _) (et_var 3) (et_call (x := n) (fn_leven T) (hr.mono (by decide)) (show n ≤ 99 by omega) (at_one (et_var 2)))) ?_) (fun _ => wt_and2 (tt_notN (et_call (x := (n, d)) (fn_bar T) (hr.mono (by decide)) ⟨by have := hB.l1; rw [hn] at this; exact this, h8, by show d ≤ 8; omega⟩ (at_cons (et_var 2) (at_one (et_var 5))))) (fun _ => wt_and1 (tt_eq (tt_neD (units64 hr) (dp_ws (l := dueL L d)) (dp_ws (l := [])) (wsD_shaped _) (wsD_shaped _) (et_var 7) (et_lst at_nil)) (by rw [eqv_ws])))))) ?_) rfl ?_
  · exact eqv_ln _ _
  · by_cases z1 : L.ls = (even n).ls
    · by_cases z3 : L.ms = (even n).ms
      · have z : L = even n := by
          obtain ⟨a, b⟩ := L
          have z1 : a = (even n).ls := z1
          have z3 : b = (even n).ms := z3
          rw [z1, z3]
        by_cases z2 : pw n ≤ d
        · have : dueL L d = [] := by
            rw [z]
            exact even_due (by have := hB.l1; rw [hn] at this; exact this) h8 d6 z2
          rw [this]
          simp
        · have : barV n d = .non := by unfold barV; rw [if_neg z2]
          rw [this]
          simp
      · rw [decide_eq_false z3, Bool.and_false, Bool.false_and]
    · rw [decide_eq_false z1, Bool.false_and, Bool.false_and]
  exact bt_ret (et_call (x := (L, d)) (fn_lnumbered T) (hr.mono (by decide)) ⟨hB, d1, d6⟩ (at_cons (et_var 1) (at_cons (et_var 4) (at_cons (et_var 8) (at_one (et_var 7)))))) hR
end
end
end K79
set_option Elab.async false
set_option linter.all false
set_option maxRecDepth 100000
/-! D23: law, its first half; law. -/
namespace K79
open PySem L2
open PyProof.Rows (envOfC)
section
variable {P : Program} {w : World} {K : PySem.W.Frag} {mg : Str → Option Value} {base : Heap}
section
variable {f : Addr} {cdv : Value} {Ar : Around} {outer : List PySem.Env} {s : Shared} {H S : Hp} {E : XK} {D : Ends} {ns : List Int} {n d : Nat} {L : Ln}
theorem same_hx {L : Ln} {d c m : Nat} {A : Ln → Prop} (h : ∀ M, A M → LnB M ∧ dueL M d = dueL L d) (d1 : 1 ≤ d) (d6 : d ≤ 6) : ∀ vs S, All2 [tEx fun M => tWhen (tLine K M) (A M), tI d, tLst K ((dueL L d).map (tW K))] vs S → ∃ x : Ln × Nat, (LnB x.1 ∧ 1 ≤ x.2 ∧ x.2 ≤ 6) ∧ All2 [tLine K x.1, tI x.2, tLst K ((dueL x.1 x.2).map (tW K))] vs S ∧ (tBl true).le (tBl true) := fun vs S z => by
  obtain ⟨x, y, u, rfl, ⟨M, hM, hA⟩, hy, hu⟩ := all2_3 z
  obtain ⟨b, e⟩ := h M hA
  refine ⟨(M, d), ⟨b, d1, d6⟩, .cons hM (.cons hy (.cons ?_ .nil)), Ty.le_refl _⟩
  rw [e]
  exact hu
theorem grown_hx {L : Ln} (hO : LnOk 34 L) : ∀ v vs S, (tLine K L).p v S → All2 [tQP K fun q => 0 < q ∧ Sz 3 q] vs S → ∃ x : Ln × Rat, (0 < x.2 ∧ ∃ c, LnOk c x.1 ∧ Sz c x.2 ∧ 2 * c ≤ 4000) ∧ All2 [tLine K x.1, tQ K x.2] (v :: vs) S ∧ (tLine K (x.1.grow x.2)).le (tEx fun M => tWhen (tLine K M) (∃ q, (0 < q ∧ Sz 3 q) ∧ M = L.grow q)) := fun v vs S hv z => by
  obtain ⟨y, rfl, q, hq, pq⟩ := all2_1 z
  exact ⟨(L, q), ⟨pq.1, 34, hO, pq.2.mono (by decide), by decide⟩, .cons hv (.cons hq .nil), fun _ _ r => ⟨_, r, q, pq, rfl⟩⟩
set_option maxHeartbeats 4000000 in
theorem law_b (T : Txt K mg) (hr : Room 13 (Ar.deeper (envOfC "law" (defScope sLaw) s.heap.objs.size f cdv))) (h8 : n ≤ 8) (hL : LnH n L) (d1 : 1 ≤ d) (d6 : d ≤ 6) (hR : RetOk S H (tBl true) D.rt) : BTy (Ct P w K mg base nLaw "law" sLaw f cdv Ar outer s H E) S H [] (eLaw K ns n d L) ((defBody sLaw).drop 10) D := by
  have nd : nLaw.Nodup := by decide +kernel
  have hB := hL.b h8
  have hn : L.ls.length = n := hL.2
  have ok := hL.1
  have h1 : 1 ≤ n := by have := ok.l1; omega
  refine bt_forL (ts := (words n).map (tW K)) 9 (fun _ => eLaw K ns n d L) (fun _ => []) nd PassesOwn.never (et_var 6) (.refl _) rfl (fun S1 H1 g k U hU => ?_) ?_
  · obtain ⟨q, e, rfl⟩ := at_map hU
    have hm := List.mem_of_getElem? e
    obtain ⟨hw, hl⟩ := (words_mem h1 (by omega)).mp hm
    have hl : q.length = L.ls.length := by rw [hl, hn]
    refine bt_set (T := tI (lawOrd L q : Nat)) 10 nd (et_call (x := (L, q)) (fn_orderOf T) (hr.mono (by decide)) ⟨hB, hw, hl, loud ok hw.toSigns hl⟩ (at_cons (et_var 4) (at_one (et_le (et_list T.f_list (et_le (et_var 9) tTup_seq)) tLst_seq)))) ?_
    refine bt_no (k := false) (tt_eq (tt_w (wt_or2 (tt_not (tt_val (et_call (x := ((lawOrd L q : Int), 0, ((poles q).length : Int))) (fn_lisnumber T) (hr.mono (by decide)) trivial (at_cons (et_var 10) (at_cons et_int (at_one (et_eq (et_lenT T.f_len (et_call (x := q) (fn_lpoles T) (hr.mono (by decide)) hw.toSigns (at_one (et_var 9)))) (by rw [List.length_map])))))))) (fun _ => wt_or1 (tt_neB (et_ge (et_var 10) (et_var 5)) (et_inD (units65 hr) (et_var 9) (et_var 7)))))) ?_) rfl ?_
    · have a := lawOrd_poles ok hw.toSigns hl
      have e1 : (decide ((0 : Int) ≤ (lawOrd L q : Int)) && decide ((lawOrd L q : Int) ≤ ((poles q).length : Int))) = true := by
        rw [Bool.and_eq_true, decide_eq_true_iff, decide_eq_true_iff]
        omega
      have e2 : decide ((d : Int) ≤ (lawOrd L q : Int)) = decide (q ∈ dueL L d) := by
        rw [decide_eq_decide]
        unfold dueL
        rw [List.mem_filter, hn, decide_eq_true_iff]
        constructor
        · intro h
          exact ⟨hm, by omega⟩
        · rintro ⟨_, h⟩
          omega
      show (!(decide ((0 : Int) ≤ (lawOrd L q : Int)) && decide ((lawOrd L q : Int) ≤ ((poles q).length : Int))) || !decide (decide ((d : Int) ≤ (lawOrd L q : Int)) = decide (q ∈ dueL L d))) = false
      rw [e1, e2]
      simp
    · exact bt_turn (fun _ _ h => h) (el_eq (el_eq (el_eq (el_eq (el_eq (el_eq (el_eq (el_eq (el_eq (el_no (el_no (el_no (el_no (el_no (el_no (el_no el_nil))))))))))))))))
  refine bt_set (T := tQP K fun q => Sz 3 q) 11 nd (et_callX (T := tQP K fun q => Sz 3 q) (fn_lratio T) (hr.mono (by decide)) (at_cons (et_subP (P := fun v => 0 ≤ v ∧ v < 15) (Q' := fun v => -7 ≤ v ∧ v ≤ 7) (et_call (x := 15) (fn_take T) (hr.mono (by decide)) ⟨by decide, by decide⟩ (at_cons (et_var 1) (at_one et_int))) et_int (fun v z => ⟨by omega, by omega⟩)) (at_one (et_addP (P := fun v => 0 ≤ v ∧ v < 3) (Q' := fun v => 1 ≤ v ∧ v ≤ 3) et_int (et_call (x := 3) (fn_take T) (hr.mono (by decide)) ⟨by decide, by decide⟩ (at_cons (et_var 1) (at_one et_int))) (fun v z => ⟨by omega, by omega⟩)))) (ratio_hx fun u v hu hv => ⟨⟨by omega, Nat.lt_of_lt_of_le (show v.natAbs < 2 ^ 4 by omega) (Nat.pow_le_pow_right (by decide) (by decide))⟩, divInt_size (n := 3) (by omega) (by omega) (by omega)⟩)) ?_
  refine bt_ex 11 rfl fun t => ?_
  refine bt_when 11 rfl fun ht => ?_
  have hBs : LnB (L.shift t) := ⟨38, (ok.shift ht).mono (by decide), by decide, by show L.ls.length ≤ 8; omega⟩
  refine bt_no (tt_not (tt_val (et_call (x := (L.shift t, d)) (fn_lsame T) (hr.mono (by decide)) ⟨hBs, d1, d6⟩ (at_cons (et_meth T.clsLine T.m_shifted (fn_lineShift T) (hr.mono (by decide)) (L, t) ⟨34, ok, ht.mono (by decide), by decide⟩ rfl (et_var 4) rfl (at_one (et_var 11))) (at_cons (et_var 5) (at_one (et_eq (et_var 7) (by rw [due_shift ok ht]; rfl)))))))) rfl ?_
  refine bt_no (tt_not (tt_val (et_callX (T := tBl true) (fn_lsame T) (hr.mono (by decide)) (at_cons (et_methX T.clsLine T.m_grown (fn_lineGrown T) (hr.mono (by decide)) (grown_hx ok) (et_var 4) rfl (at_one (et_callX (T := tQP K fun q => 0 < q ∧ Sz 3 q) (fn_lratio T) (hr.mono (by decide)) (at_cons (et_addP (P := fun v => 0 ≤ v ∧ v < 7) (Q' := fun v => 1 ≤ v ∧ v ≤ 7) et_int (et_call (x := 7) (fn_take T) (hr.mono (by decide)) ⟨by decide, by decide⟩ (at_cons (et_var 1) (at_one et_int))) (fun v z => ⟨by omega, by omega⟩)) (at_one (et_addP (P := fun v => 0 ≤ v ∧ v < 3) (Q' := fun v => 1 ≤ v ∧ v ≤ 3) et_int (et_call (x := 3) (fn_take T) (hr.mono (by decide)) ⟨by decide, by decide⟩ (at_cons (et_var 1) (at_one et_int))) (fun v z => ⟨by omega, by omega⟩)))) (ratio_hx fun u v hu hv => ⟨⟨by omega, Nat.lt_of_lt_of_le (show v.natAbs < 2 ^ 4 by omega) (Nat.pow_le_pow_right (by decide) (by decide))⟩, small (n := 3) (by omega) (by omega) (by omega) (by omega)⟩)))) (at_cons (et_var 5) (at_one (et_var 7)))) (same_hx (c := 0) (m := 0) (fun M hM => ?_) d1 d6)))) rfl ?_
  · obtain ⟨z, hz, rfl⟩ := hM
    exact ⟨⟨37, (ok.grow hz.1 hz.2).mono (by decide), by decide, by show (L.ls.map (· * z)).length ≤ 8; rw [List.length_map]; omega⟩, due_grow ok hz.1 hz.2⟩
  exact bt_le (el_eq (el_eq (el_eq (el_eq (el_eq (el_eq (el_eq (el_eq (el_eq (el_no (el_no (el_no (el_no (el_no (el_no (el_no el_nil)))))))))))))))) (law_c T hr h8 hL d1 d6 hR)
set_option maxHeartbeats 4000000 in
theorem law_a (T : Txt K mg) (hr : Room 13 (Ar.deeper (envOfC "law" (defScope sLaw) s.heap.objs.size f cdv))) (h8 : n ≤ 8) (hL : LnH n L) (d1 : 1 ≤ d) (d6 : d ≤ 6) (hR : RetOk S H (tBl true) D.rt) : BTy (Ct P w K mg base nLaw "law" sLaw f cdv Ar outer s H E) S H [] [some (tLst K (ns.map tI)), some (tHand K), some (tI n), some (tLn K L), some (tLine K L), some (tI d), none, none, none, none, none, none, none, none, none, none] ((defBody sLaw).drop 6) D := by
  have nd : nLaw.Nodup := by decide +kernel
  have hB := hL.b h8
  have hn : L.ls.length = n := hL.2
  have ok := hL.1
  have h1 : 1 ≤ n := by have := ok.l1; omega
  have hp : 2 ^ (n - 1) ≤ 2 ^ 7 := Nat.pow_le_pow_right (by decide) (by omega)
  have hdl := due_len hB d
  refine bt_setLc (T := tLst K ((words n).map (tW K))) 6 (k := 14) ⟨nd, blkOk_by (own := [("_law_k", 14)]) (N := nLaw) (sc := defScope sLaw) (by decide +kernel), rfl, rfl⟩ (pi_range1 rfl T.f_range pa_w rfl) (rt_eq (rt_lcR1 (2 ^ (n - 1)) (fun k => tW K (signsN n (k : Nat))) (fun _ => true) (at_one (et_eq (et_shl (i := 1) (j := (n : Int) - 1) ⟨by omega, by omega, by decide⟩ et_int (et_sub (et_var 2) et_int)) ?_)) (by omega) (fun j hj => ifs_nil) (fun j hj _ s0 H0 C cl fp => et_call (x := (n, (j : Int))) (fn_lsigns T) (hr.mono (by decide)) (show n ≤ 99 by omega) (at_cons (et_var 2) (at_one (et_var 14))))) (congrArg (tLst K) (map_map_ty (f := tW K) (g := fun v => signsN n ((v : Nat) : Int)) (List.range (2 ^ (n - 1)))))) ?_
  · rw [show ((n : Int) - 1).toNat = n - 1 by omega, Int.one_mul]
    exact congrArg tI (by norm_cast)
  refine bt_setLc (T := tLst K ((dueL L d).map (tW K))) 7 (k := 9) ⟨nd, blkOk_by (own := [("_law_word", 9)]) (N := nLaw) (sc := defScope sLaw) (by decide +kernel), rfl, rfl⟩ (pi_list pe_w) (rt_eq (rt_lcL (words n) (tW K) (tW K) (fun s => decide (d ≤ lawOrd L s)) (et_var 6) (by rw [words_len]; omega) (fun y hy => ifs_one fun s0 H0 C cl fp => ?_) (fun y hy _ s0 H0 C cl fp => et_var 9)) (by unfold dueL; rw [hn]; rfl)) ?_
  · obtain ⟨hw, hl⟩ := (words_mem h1 (by omega)).mp hy
    refine tt_eq (tt_ge (et_call (x := (L, y)) (fn_lorder T) (hr.mono (by decide)) ⟨hB, hw.toSigns, by show y.length = L.ls.length; rw [hl, hn]⟩ (at_cons (et_ixT (T := tQs K L.ls) (k := 0) (et_var 3) et_int rfl rfl) (at_cons (et_ixT (T := tQs K L.ms) (k := 1) (et_var 3) et_int rfl rfl) (at_one (et_var 9))))) (et_var 5)) ?_
    rw [decide_eq_decide]
    show (d : Int) ≤ (lawOrd L y : Int) ↔ _
    omega
  refine bt_set (T := tSpan K (hums L d)) 8 nd (et_call (x := (L, d)) (fn_degree T) (hr.mono (by decide)) ⟨hB, d1, d6⟩ (at_cons (et_var 4) (at_one (et_var 5)))) ?_
  refine bt_no (tt_not (tt_val (et_call (x := dueL L d) (fn_lare T) (hr.mono (by decide)) ⟨show (dueL L d).length ≤ 9999 by omega, due_word hB⟩ (at_cons (et_eq (et_hushed (L := L) (hs := hums L d) T (hr.mono (by decide)) (hu_ok hB d1 d6) (at_cons (et_var 4) (at_one (et_var 8)))) (by rw [hush_due hB])) (at_one (et_var 7)))))) rfl ?_
  exact law_b T hr h8 hL d1 d6 hR
end
set_option maxHeartbeats 4000000 in
theorem fnok_law {f : Addr} {fd : FuncData} (T : Txt K mg) (F : FunD K "law" "law" (defArgs sLaw) (defBody sLaw) (defScope sLaw) [] [] f fd) : FnOk P w K mg base CX0 14 f fd ["_law_script"] (spLaw K) := by
  have nd : nLaw.Nodup := by decide +kernel
  refine fn_ok (st := sLaw) F sc_law (fun _ => rfl) fun f cdv Ar outer s H E ns pre hr S D hR _ => ?_
  show BTy _ _ _ _ [some (tLst K (ns.map tI)), none, none, none, none, none, none, none, none, none, none, none, none, none, none, none] _ _
  refine bt_set (T := tHand K) 1 nd (et_call (x := ns) (fn_hand T) (hr.mono (by decide)) pre (at_one (et_var 0))) ?_
  refine bt_set (T := tIP fun v => v ∈ [4, 2, 3, 5, 6, 4, 1, 8]) 2 nd (et_ixP (ns := [4, 2, 3, 5, 6, 4, 1, 8]) (P := fun v => 0 ≤ v ∧ v < 8) (et_lst (at_cons et_int (at_cons et_int (at_cons et_int (at_cons et_int (at_cons et_int (at_cons et_int (at_cons et_int (at_one et_int))))))))) (et_call (x := 8) (fn_take T) (hr.mono (by decide)) ⟨by decide, by decide⟩ (at_cons (et_var 1) (at_one et_int))) (fun v h => h)) ?_
  refine bt_ex 2 rfl fun v => ?_
  refine bt_when 2 rfl fun hv => ?_
  obtain ⟨n, rfl⟩ : ∃ n : Nat, v = (n : Nat) := ⟨v.toNat, by have := mem_count hv; omega⟩
  obtain ⟨h1, h8⟩ : 1 ≤ n ∧ n ≤ 8 := by have := mem_count hv; omega
  refine bt_set (T := tLnH K n) 3 nd (et_call (x := n) (fn_lline T) (hr.mono (by decide)) ⟨h1, h8⟩ (at_cons (et_var 1) (at_one (et_var 2)))) ?_
  refine bt_ifJ (Δ := [some (tLst K (ns.map tI)), some (tHand K), some (tI n), some (tLnH K n), none, none, none, none, none, none, none, none, none, none, none, none]) (ttu_eqP (et_call (x := 2) (fn_take T) (hr.mono (by decide)) ⟨by decide, by decide⟩ (at_cons (et_var 1) (at_one et_int))) et_int) ?_ ?_ ?_
  · refine bt_set (T := tLnH K n) 3 nd (et_call (x := n) (fn_levenG T) (hr.mono (by decide)) ⟨h1, h8⟩ (at_cons (et_var 1) (at_one (et_var 2)))) ?_
    exact bt_turn (fun _ _ h => h) (.refl _)
  · exact bt_turn (fun _ _ h => h) (.refl _)
  refine bt_ex 3 rfl fun L => ?_
  refine bt_when 3 rfl fun hL => ?_
  have hB := hL.b h8
  have hn : L.ls.length = n := hL.2
  refine bt_set (T := tLine K L) 4 nd (et_call (x := L) (fn_lbuilt T) (hr.mono (by decide)) hB.ok (at_one (et_var 3))) ?_
  refine bt_set (T := tIP fun v => v ∈ [1, 2, 1, 2, 3, 4, 5, 6]) 5 nd (et_ixP (ns := [1, 2, 1, 2, 3, 4, 5, 6]) (P := fun v => 0 ≤ v ∧ v < 8) (et_lst (at_cons et_int (at_cons et_int (at_cons et_int (at_cons et_int (at_cons et_int (at_cons et_int (at_cons et_int (at_one et_int))))))))) (et_call (x := 8) (fn_take T) (hr.mono (by decide)) ⟨by decide, by decide⟩ (at_cons (et_var 1) (at_one et_int))) (fun v h => h)) ?_
  refine bt_ex 5 rfl fun v => ?_
  refine bt_when 5 rfl fun hv2 => ?_
  obtain ⟨d, rfl⟩ : ∃ d : Nat, v = (d : Nat) := ⟨v.toNat, by have := mem_degree hv2; omega⟩
  obtain ⟨d1, d6⟩ : 1 ≤ d ∧ d ≤ 6 := by have := mem_degree hv2; omega
  exact law_a T hr h8 hL d1 d6 hR
end
end K79
set_option Elab.async false
set_option linter.all false
set_option maxRecDepth 100000
set_option maxHeartbeats 0
/-! KH3: the statement. -/
namespace K79
open PySem L2
theorem facts {P : Program} {w : World} {K : PySem.W.Frag} {h : Heap} {mg : Str → Option Value} {f : Addr} (X : K.In h) (G : h.Ns mainGlobals mg) (hfa : mg ("law" : Str) = some (.ref f)) (c : He.SaysD fa fn K) (e : exA K = true) (v : fnWA K (secG K) = secV) :
    ∃ fd : FuncData, (∀ (s : Shared) (v : Value), BindsTo s fd ⟨[v], []⟩ [("_law_script", v)]) ∧ ∀ base : Heap, FnOk P w K mg base CX0 14 f fd ["_law_script"] (spLaw K) := by
  have e2 := Bool.and_eq_true_iff.mp (show (exB K && secB K) = true from e)
  have T : Txt K mg := ⟨c, e2.1, e2.2, v, h, X, G⟩
  obtain ⟨f', fd, h1, F⟩ := T.d_law
  have e3 := hfa.symm.trans h1
  cases e3
  have b := FunD.bindsA (ps := ["_law_script"]) F fun _ _ _ _ _ _ us hl => match us, hl with | [_], _ => rfl
  exact ⟨fd, fun s v => b s [v] rfl, fun base => fnok_law T F⟩
theorem says_law {K : PySem.W.Frag} {H : Hp} {a : Addr} {ns : List Int} (hl : ns.length ≤ 63) (hS : SqL K H a (ns.map V.int)) : spLaw K [.ref a] H (fun v _ => v = .bl true) fun _ _ _ => False :=
  ⟨ns, H, Same.refl H, .cons ⟨a, ns.map V.int, rfl, hS, ints_all2 ns H⟩ .nil, Nat.le_trans hl (by decide), fun v S' H' _ h => h⟩
end K79
open PySem PySem.W PySem.Calls PyProof.Rows
theorem PySem.Challenge.cw_hushedwires_k79_whole_words_by_their_ord_holds : PySem.Challenge.rw_hushedwires_k79_whole_words_by_their_ord.Holds := by
  w_on; o_law
  refine HandSHeadRun.head_any (r := OpenLaw.row PySem.Challenge.rw_hushedwires_k79_whole_words_by_their_ord) (q := view (OpenLaw.row PySem.Challenge.rw_hushedwires_k79_whole_words_by_their_ord).prog [102]) (H := K79.hk) (ob := K79.ob) (M := 8000) (loose := K79.loose) (d := HandSHeadRun.topDef (OpenLaw.row PySem.Challenge.rw_hushedwires_k79_whole_words_by_their_ord).prog 102) (kwd := []) K79.ob_eq
    (by kernel_rfl) (fun s => by kernel_rfl) K79.run (by kernel_rfl) (by kernel_rfl) (by kernel_rfl) (by rfl) (by first | assumption | decide +kernel) (by decide +kernel) ⟨rfl, rfl, rfl, rfl, rfl, by decide +kernel⟩ ?hw ?hc
  case hw => w_witness2
  case hc =>
    refine L2.walk_ofE (l := PySem.Challenge.rw_hushedwires_k79_whole_words_by_their_ord) (n := 63) (k := 14) (x := "_law_script") (CX := L2.CX0) rfl (by decide) (by kernel_rfl) ⟨rfl, by decide, by decide⟩ ?F (fun _ _ _ _ z => z)
    intro w mg fa h Y G hmg0
    obtain ⟨K, KX, c, e, v⟩ := Y
    have hmg : mg ("law" : PySem.Str) = some (.ref fa) := by
      have e : (HandSHeadRun.topDef (OpenLaw.row PySem.Challenge.rw_hushedwires_k79_whole_words_by_their_ord).prog 102).name = ("law" : PySem.Str) := by kernel_rfl
      rw [← e]
      exact hmg0
    obtain ⟨fd, hb, hF⟩ := K79.facts (P := (PySem.Challenge.rw_hushedwires_k79_whole_words_by_their_ord).prog) (w := w) KX G hmg c e v
    exact ⟨K, fd, K79.spLaw K, KX, hb, fun H a ns hl _ hS => K79.says_law hl hS, fun base _ _ => hF base⟩
