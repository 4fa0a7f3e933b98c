import PyProof.Rows.All
import Wide.All
import OpenK.AllK
import Wide.FinOn
import HandS.ForMost
import HandS.Wide
import HandS.WideBits
import HandS.IsInst
import HandS.Conv
import HandS.Codes
import HandS.Style
import HandS.Zip
import HandS.Walk
import HandS.Defaults
import HandS.Lambda
import HandS.HeadHook4
import HandS.HeadHook2
import KE.GoesEnum
import KE.GoesZip
import KE.KTupSum
import KE.DatumOrd
import HandS.Star
import HandS.Strs
import KE.SortData
import HandS.Head2
import HandS.HeadEnd
import HandS.HeadWalk
import KE.SortKeyHeap
import PyProof.TupleOfSeq
import HandS.Nested
import PySem.Challenge.RW_cabshares_k34_whole_mixtures_of_tables
/-! MDet -/
/-! Determinants by Laplace along the first column, matrices as functions Nat → Nat → Int. Core Lean only. -/
namespace Det
/-- sum over 0 .. n-1 -/
def sm (n : Nat) (f : Nat → Int) : Int := match n with
  | 0 => 0
  | n + 1 => sm n f + f n
theorem sm_congr {n : Nat} {f g : Nat → Int} (h : ∀ i, i < n → f i = g i) : sm n f = sm n g := by
  induction n with
  | zero => rfl
  | succ n ih => simp only [sm]; rw [ih fun i hi => h i (by omega), h n (by omega)]
theorem sm_zero {n : Nat} {f : Nat → Int} (h : ∀ i, i < n → f i = 0) : sm n f = 0 := by
  induction n with
  | zero => rfl
  | succ n ih => simp only [sm]; rw [ih fun i hi => h i (by omega), h n (by omega)]; rfl
theorem sm_add {n : Nat} {f g : Nat → Int} : sm n (fun i => f i + g i) = sm n f + sm n g := by
  induction n with
  | zero => rfl
  | succ n ih => simp only [sm]; rw [ih]; omega
theorem sm_mul {n : Nat} {c : Int} {f : Nat → Int} : sm n (fun i => c * f i) = c * sm n f := by
  induction n with
  | zero => simp [sm]
  | succ n ih => simp only [sm]; rw [ih, Int.mul_add]
theorem sm_neg {n : Nat} {f : Nat → Int} : sm n (fun i => - f i) = - sm n f := by
  induction n with
  | zero => rfl
  | succ n ih => simp only [sm]; rw [ih]; omega
theorem sm_one {n a : Nat} {f : Nat → Int} (ha : a < n) (h : ∀ i, i < n → i ≠ a → f i = 0) : sm n f = f a := by
  induction n with
  | zero => omega
  | succ n ih =>
    simp only [sm]
    by_cases e : a = n
    · subst e
      rw [sm_zero fun i hi => h i (by omega) (by omega)]; omega
    · rw [ih (by omega) fun i hi ne => h i (by omega) ne, h n (by omega) (Ne.symm e)]; omega
theorem sm_two {n a b : Nat} {f : Nat → Int} (ha : a < n) (hb : b < n) (ne : a ≠ b) (h : ∀ i, i < n → i ≠ a → i ≠ b → f i = 0) : sm n f = f a + f b := by
  have e : sm n f = sm n (fun i => (if i = a then f a else 0) + (if i = b then f b else 0)) := sm_congr fun i hi => by
    by_cases e1 : i = a
    · subst e1; simp [ne]
    · by_cases e2 : i = b
      · subst e2; simp [e1]
      · simp [e1, e2, h i hi e1 e2]
  rw [e, sm_add, sm_one ha fun i _ h => by simp [h], sm_one hb fun i _ h => by simp [h]]
  simp
theorem sm_split {n a : Nat} {f : Nat → Int} (ha : a < n) : sm n f = f a + sm n (fun i => if i = a then 0 else f i) := by
  have e : sm n f = sm n (fun i => (if i = a then f a else 0) + (if i = a then 0 else f i)) := sm_congr fun i _ => by
    by_cases e1 : i = a
    · subst e1; simp
    · simp [e1]
  rw [e, sm_add, sm_one ha fun i _ h => by simp [h]]
  simp
theorem sm_abs {n : Nat} {B : Nat} {f : Nat → Int} (h : ∀ i, i < n → (f i).natAbs ≤ B) : (sm n f).natAbs ≤ n * B := by
  induction n with
  | zero => simp [sm]
  | succ n ih =>
    simp only [sm]
    have h1 := ih fun i hi => h i (by omega)
    have h2 := h n (by omega)
    have h3 := Int.natAbs_add_le (sm n f) (f n)
    rw [Nat.succ_mul]; omega

def skip (a r : Nat) : Nat := if r < a then r else r + 1
def sg (i : Nat) : Int := if i % 2 = 0 then 1 else -1
theorem sg_succ (i : Nat) : sg (i + 1) = - sg i := by
  unfold sg
  by_cases h : i % 2 = 0
  · rw [if_pos h, if_neg (by omega)]
  · rw [if_neg h, if_pos (by omega)]; rfl
theorem sg_abs (i : Nat) : (sg i).natAbs = 1 := by unfold sg; split <;> rfl
abbrev Mat := Nat → Nat → Int
def minor (M : Mat) (i : Nat) : Mat := fun r c => M (skip i r) (c + 1)
def det : Nat → Mat → Int
  | 0, _ => 1
  | n + 1, M => sm (n + 1) fun i => sg i * (M i 0 * det n (minor M i))
theorem det_congr : ∀ {n : Nat} {M M' : Mat}, (∀ r c, r < n → c < n → M r c = M' r c) → det n M = det n M'
  | 0, _, _, _ => rfl
  | n + 1, M, M', h => by
    simp only [det]
    refine sm_congr fun i hi => ?_
    rw [h i 0 hi (by omega), det_congr (M := minor M i) (M' := minor M' i) fun r c hr hc => ?_]
    exact h _ _ (by unfold skip; split <;> omega) (by omega)
/-- row a replaced -/
def put (M : Mat) (a : Nat) (v : Nat → Int) : Mat := fun r c => if r = a then v c else M r c
theorem put_same {M : Mat} {a : Nat} {v : Nat → Int} {c : Nat} : put M a v a c = v c := by simp [put]
theorem put_ne {M : Mat} {a r : Nat} {v : Nat → Int} {c : Nat} (h : r ≠ a) : put M a v r c = M r c := by simp [put, h]
/-- the place of row a in the minor without row i -/
def back (i a : Nat) : Nat := if a < i then a else a - 1
theorem minor_put_same {M : Mat} {a : Nat} {v : Nat → Int} : minor (put M a v) a = minor M a := by
  funext r c; unfold minor; rw [put_ne]; unfold skip; split <;> omega
theorem minor_put_ne {M : Mat} {i a : Nat} {v : Nat → Int} (h : a ≠ i) : minor (put M a v) i = put (minor M i) (back i a) (fun c => v (c + 1)) := by
  funext r c
  unfold minor put
  have k : skip i r = a ↔ r = back i a := by
    unfold skip back
    by_cases h1 : r < i <;> by_cases h2 : a < i <;> simp only [h1, h2, if_true, if_false] <;> omega
  by_cases e : r = back i a
  · rw [if_pos (k.mpr e), if_pos e]
  · rw [if_neg (fun z => e (k.mp z)), if_neg e]
theorem back_lt {n i a : Nat} (hi : i < n + 1) (ha : a < n + 1) (h : a ≠ i) : back i a < n := by unfold back; split <;> omega
/-- linear in row a -/
theorem det_add : ∀ {n : Nat} {M : Mat} {a : Nat} {v w : Nat → Int}, a < n → det n (put M a fun c => v c + w c) = det n (put M a v) + det n (put M a w)
  | n + 1, M, a, v, w, ha => by
    simp only [det]
    rw [← sm_add]
    refine sm_congr fun i hi => ?_
    by_cases e : a = i
    · subst e
      rw [minor_put_same, minor_put_same, minor_put_same, put_same, put_same, put_same]
      rw [Int.add_mul, Int.mul_add]
    · rw [minor_put_ne e, minor_put_ne e, minor_put_ne e, put_ne (Ne.symm e), put_ne (Ne.symm e), put_ne (Ne.symm e), det_add (back_lt hi ha e)]
      rw [Int.mul_add, Int.mul_add]
theorem det_smul : ∀ {n : Nat} {M : Mat} {a : Nat} {k : Int} {v : Nat → Int}, a < n → det n (put M a fun c => k * v c) = k * det n (put M a v)
  | n + 1, M, a, k, v, ha => by
    simp only [det]
    rw [← sm_mul]
    refine sm_congr fun i hi => ?_
    by_cases e : a = i
    · subst e
      rw [minor_put_same, minor_put_same, put_same, put_same]
      grind
    · rw [minor_put_ne e, minor_put_ne e, put_ne (Ne.symm e), put_ne (Ne.symm e), det_smul (back_lt hi ha e)]
      grind
/-- a row that is a sum of rows -/
theorem det_sum {n : Nat} {M : Mat} {a : Nat} {k : Nat} {c : Nat → Int} {v : Nat → Nat → Int} (ha : a < n) : det n (put M a fun x => sm k fun l => c l * v l x) = sm k fun l => c l * det n (put M a (v l)) := by
  induction k with
  | zero =>
    have := det_smul (M := M) (a := a) (k := 0) (v := fun _ => 0) ha
    simpa [sm] using this
  | succ k ih =>
    simp only [sm]
    rw [det_add (v := fun x => sm k fun l => c l * v l x) (w := fun x => c k * v k x) ha, ih, det_smul ha]
def swp (a r : Nat) : Nat := if r = a then a + 1 else if r = a + 1 then a else r
/-- adjacent rows change places -/
theorem det_swp : ∀ {n : Nat} {M : Mat} {a : Nat}, a + 1 < n → det n (fun r => M (swp a r)) = - det n M
  | n + 1, M, a, ha => by
    simp only [det]
    -- term by term: i ↦ swp a i
    have other : ∀ i, i < n + 1 → i ≠ a → i ≠ a + 1 → sg i * (M (swp a i) 0 * det n (minor (fun r => M (swp a r)) i)) = - (sg i * (M i 0 * det n (minor M i))) := by
      intro i hi h1 h2
      have e1 : swp a i = i := by simp [swp, h1, h2]
      rw [e1]
      by_cases hlt : i < a
      · have e2 : minor (fun r => M (swp a r)) i = fun r => minor M i (swp (a - 1) r) := by
          funext r c
          show M (swp a (skip i r)) (c + 1) = M (skip i (swp (a - 1) r)) (c + 1)
          have : swp a (skip i r) = skip i (swp (a - 1) r) := by
            unfold swp skip
            repeat' split
            all_goals omega
          rw [this]
        rw [e2, det_swp (M := minor M i) (a := a - 1) (by omega)]
        grind
      · have e2 : minor (fun r => M (swp a r)) i = fun r => minor M i (swp a r) := by
          funext r c
          show M (swp a (skip i r)) (c + 1) = M (skip i (swp a r)) (c + 1)
          have : swp a (skip i r) = skip i (swp a r) := by
            unfold swp skip
            repeat' split
            all_goals omega
          rw [this]
        rw [e2, det_swp (M := minor M i) (a := a) (by omega)]
        grind
    have ta : sg a * (M (swp a a) 0 * det n (minor (fun r => M (swp a r)) a)) = - (sg (a + 1) * (M (a + 1) 0 * det n (minor M (a + 1)))) := by
      have e1 : swp a a = a + 1 := by simp [swp]
      have e2 : minor (fun r => M (swp a r)) a = minor M (a + 1) := by
        funext r c
        show M (swp a (skip a r)) (c + 1) = M (skip (a + 1) r) (c + 1)
        have : swp a (skip a r) = skip (a + 1) r := by
          unfold swp skip
          repeat' split
          all_goals omega
        rw [this]
      rw [e1, e2, sg_succ]; grind
    have tb : sg (a + 1) * (M (swp a (a + 1)) 0 * det n (minor (fun r => M (swp a r)) (a + 1))) = - (sg a * (M a 0 * det n (minor M a))) := by
      have e1 : swp a (a + 1) = a := by simp [swp]
      have e2 : minor (fun r => M (swp a r)) (a + 1) = minor M a := by
        funext r c
        show M (swp a (skip (a + 1) r)) (c + 1) = M (skip a r) (c + 1)
        have : swp a (skip (a + 1) r) = skip a r := by
          unfold swp skip
          repeat' split
          all_goals omega
        rw [this]
      rw [e1, e2, sg_succ]; grind
    rw [sm_split (a := a) (by omega), sm_split (a := a + 1) (f := fun i => if i = a then 0 else _) (by omega), sm_split (a := a) (f := fun i => sg i * (M i 0 * det n (minor M i))) (by omega), sm_split (a := a + 1) (f := fun i => if i = a then 0 else sg i * (M i 0 * det n (minor M i))) (by omega)]
    simp only [show a + 1 ≠ a by omega, if_false]
    rw [ta, tb]
    have rest : sm (n + 1) (fun i => if i = a + 1 then 0 else if i = a then 0 else sg i * (M (swp a i) 0 * det n (minor (fun r => M (swp a r)) i))) = - sm (n + 1) (fun i => if i = a + 1 then 0 else if i = a then 0 else sg i * (M i 0 * det n (minor M i))) := by
      rw [← sm_neg]
      refine sm_congr fun i hi => ?_
      by_cases h1 : i = a + 1
      · simp [h1]
      · by_cases h2 : i = a
        · simp [h2]
        · simp only [h1, h2, if_false]
          exact other i hi h2 h1
    rw [rest]; omega
theorem det_adj {n : Nat} {M : Mat} {a : Nat} (ha : a + 1 < n) (h : ∀ c, M a c = M (a + 1) c) : det n M = 0 := by
  have e : det n (fun r => M (swp a r)) = det n M := by
    refine det_congr fun r c _ _ => ?_
    unfold swp
    by_cases h1 : r = a
    · simp [h1, h]
    · by_cases h2 : r = a + 1
      · simp [h2, h]
      · simp [h1, h2]
  have := det_swp (M := M) ha
  omega
/-- two equal rows -/
theorem det_eq_rows {n : Nat} : ∀ (k : Nat) {M : Mat} {a : Nat}, a + 1 + k < n → (∀ c, M a c = M (a + 1 + k) c) → det n M = 0
  | 0, M, a, h, e => det_adj (by omega) (by simpa using e)
  | k + 1, M, a, h, e => by
    have s := det_swp (n := n) (M := M) (a := a + 1 + k) (by omega)
    have z := det_eq_rows (n := n) k (M := fun r => M (swp (a + 1 + k) r)) (a := a) (by omega) (fun c => by
      have e1 : swp (a + 1 + k) a = a := by unfold swp; split <;> (try split) <;> omega
      have e2 : swp (a + 1 + k) (a + 1 + k) = a + 1 + (k + 1) := by unfold swp; simp; omega
      show M (swp (a + 1 + k) a) c = M (swp (a + 1 + k) (a + 1 + k)) c
      rw [e1, e2]; exact e c)
    omega
theorem det_alt {n : Nat} {M : Mat} {a b : Nat} (ha : a < n) (hb : b < n) (ne : a ≠ b) (h : ∀ c, M a c = M b c) : det n M = 0 := by
  by_cases l : a < b
  · obtain ⟨k, rfl⟩ : ∃ k, b = a + 1 + k := ⟨b - (a + 1), by omega⟩
    exact det_eq_rows k hb h
  · obtain ⟨k, rfl⟩ : ∃ k, a = b + 1 + k := ⟨a - (b + 1), by omega⟩
    exact det_eq_rows k (a := b) ha fun c => (h c).symm
theorem put_comm {M : Mat} {a b : Nat} {v w : Nat → Int} (ne : a ≠ b) : put (put M a v) b w = put (put M b w) a v := by
  funext r c
  unfold put
  by_cases h1 : r = a
  · have : r ≠ b := fun z => ne (h1.symm.trans z)
    simp [h1, ne]
  · simp [h1]
/-- the rows a and b exchanged, by linearity -/
theorem det_exch {n : Nat} {M : Mat} {a b : Nat} {v w : Nat → Int} (ha : a < n) (hb : b < n) (ne : a ≠ b) : det n (put (put M a v) b w) = - det n (put (put M a w) b v) := by
  have z : ∀ x : Nat → Int, det n (put (put M a x) b x) = 0 := fun x => det_alt ha hb ne fun c => by
    rw [put_ne ne, put_same, put_same]
  have h0 := z fun c => v c + w c
  rw [det_add hb, put_comm ne, put_comm ne, det_add ha, det_add ha, put_comm ne.symm, put_comm ne.symm, put_comm ne.symm, put_comm ne.symm] at h0
  have := z v
  have := z w
  omega
/-- the size -/
def fact : Nat → Nat
  | 0 => 1
  | n + 1 => (n + 1) * fact n
theorem det_abs : ∀ {n : Nat} {M : Mat} {B : Nat}, (∀ r c, r < n → c < n → (M r c).natAbs ≤ B) → (det n M).natAbs ≤ fact n * B ^ n
  | 0, _, _, _ => by simp [det, fact]
  | n + 1, M, B, h => by
    simp only [det]
    have := sm_abs (n := n + 1) (B := B * (fact n * B ^ n)) (f := fun i => sg i * (M i 0 * det n (minor M i))) fun i hi => by
      rw [Int.natAbs_mul, sg_abs, Nat.one_mul, Int.natAbs_mul]
      refine Nat.mul_le_mul (h i 0 hi (by omega)) (det_abs fun r c hr hc => ?_)
      exact h _ _ (by unfold skip; split <;> omega) (by omega)
    refine Nat.le_trans this (Nat.le_of_eq ?_)
    simp only [fact, Nat.pow_succ]
    grind
def idm : Mat := fun r c => if r = c then 1 else 0
theorem minor_idm : minor idm 0 = idm := by
  funext r c; unfold minor idm skip; simp
theorem det_idm : ∀ n, det n idm = 1
  | 0 => rfl
  | n + 1 => by
    simp only [det]
    rw [sm_one (a := 0) (by omega) fun i hi h => by simp [idm, h]]
    rw [minor_idm, det_idm n]; simp [sg, idm]
end Det
/-! MTab -/
/-! The tableau as functions: exchanges keep the solutions, the division is exact, the numbers are bounded. -/
namespace Tab
open Det
/-- d: the bottom; T: rows 0 .. M (the last one is the aim's), columns 0 .. n (the last one is the ends'); ab, as: the variables above the columns and of the rows -/
structure Tb where
  d : Int
  T : Nat → Nat → Int
  ab : Nat → Nat
  as : Nat → Nat
def Sol (n M : Nat) (S : Tb) (x : Nat → Int) (h : Int) : Prop :=
  ∀ i, i ≤ M → S.d * x (S.as i) + sm n (fun j => S.T i j * x (S.ab j)) = S.T i n * h
/-- S' is S after an exchange of row p and column q -/
structure Piv (n M : Nat) (S : Tb) (p q : Nat) (S' : Tb) : Prop where
  hp : p < M
  hq : q < n
  hd : 0 < S.d
  s : ∃ s : Int, (s = 1 ∨ s = -1) ∧ S'.d = s * S.T p q ∧ 0 < S'.d ∧
    (∀ j, j ≤ n → j ≠ q → S'.T p j = s * S.T p j) ∧ S'.T p q = s * S.d ∧
    (∀ i, i ≤ M → i ≠ p → S'.T i q = - s * S.T i q) ∧
    (∀ i, i ≤ M → i ≠ p → ∀ j, j ≤ n → j ≠ q → S.d * S'.T i j = s * (S.T i j * S.T p q - S.T i q * S.T p j))
  ab : S'.ab = fun j => if j = q then S.as p else S.ab j
  as : S'.as = fun i => if i = p then S.ab q else S.as i
section
variable {n M p q : Nat} {S S' : Tb} {x : Nat → Int} {h : Int}
theorem Piv.symm (P : Piv n M S p q S') : Piv n M S' p q S := by
  obtain ⟨s, hs, e1, e2, e3, e4, e5, e6⟩ := P.s
  have ss : s * s = 1 := by rcases hs with rfl | rfl <;> rfl
  refine ⟨P.hp, P.hq, e2, ⟨s, hs, by grind, P.hd, fun j hj h => by grind, by grind, fun i hi h => by grind, fun i hi h j hj h' => ?_⟩, ?_, ?_⟩
  · have a1 := e6 i hi h j hj h'
    have a2 := e3 j hj h'
    have a3 := e5 i hi h
    rw [e4, a2, a3, e1]
    grind
  · funext j
    rw [P.as, P.ab]
    by_cases hj : j = q
    · simp [hj]
    · simp [hj]
  · funext i
    rw [P.as, P.ab]
    by_cases hi : i = p
    · simp [hi]
    · simp [hi]
/-- the equations are kept -/
theorem Piv.sol (P : Piv n M S p q S') (X : Sol n M S x h) : Sol n M S' x h := by
  obtain ⟨s, hs, e1, e2, e3, e4, e5, e6⟩ := P.s
  have hp := X p (Nat.le_of_lt P.hp)
  have eap : S'.as p = S.ab q := by rw [P.as]; simp
  have ebq : S'.ab q = S.as p := by rw [P.ab]; simp
  have eb : ∀ j, j ≠ q → S'.ab j = S.ab j := fun j hj => by rw [P.ab]; simp [hj]
  have ea : ∀ i, i ≠ p → S'.as i = S.as i := fun j hj => by rw [P.as]; simp [hj]
  rw [sm_split P.hq] at hp
  intro i hi
  rw [sm_split P.hq]
  by_cases ip : i = p
  · subst ip
    have r : sm n (fun j => if j = q then 0 else S'.T i j * x (S'.ab j)) = s * sm n (fun j => if j = q then 0 else S.T i j * x (S.ab j)) := by
      rw [← sm_mul]
      refine sm_congr fun j hj => ?_
      by_cases hjq : j = q
      · simp [hjq]
      · simp only [hjq, if_false]; rw [e3 j (by omega) hjq, eb j hjq]; grind
    rw [r, eap, ebq, e4, e1, e3 n (Nat.le_refl _) (by have := P.hq; omega)]
    grind
  · have hi' := X i hi
    rw [sm_split P.hq] at hi'
    have r : S.d * sm n (fun j => if j = q then 0 else S'.T i j * x (S'.ab j)) = s * (S.T p q * sm n (fun j => if j = q then 0 else S.T i j * x (S.ab j)) - S.T i q * sm n (fun j => if j = q then 0 else S.T p j * x (S.ab j))) := by
      rw [← sm_mul, ← sm_mul (c := S.T p q), ← sm_mul (c := S.T i q), Int.sub_eq_add_neg, ← sm_neg, ← sm_add, ← sm_mul]
      refine sm_congr fun j hj => ?_
      by_cases hjq : j = q
      · simp [hjq]
      · simp only [hjq, if_false]
        rw [eb j hjq]
        have := e6 i hi ip j (by omega) hjq
        grind
    have en := e6 i hi ip n (Nat.le_refl _) (by have := P.hq; omega)
    have key : S.d * (S'.d * x (S'.as i) + (S'.T i q * x (S'.ab q) + sm n (fun j => if j = q then 0 else S'.T i j * x (S'.ab j)))) = S.d * (S'.T i n * h) := by
      rw [Int.mul_add, Int.mul_add, r, ea i ip, ebq, e1, e5 i hi ip]
      have : S.d * (S'.T i n * h) = s * (S.T i n * S.T p q - S.T i q * S.T p n) * h := by rw [← Int.mul_assoc, en]
      rw [this]
      generalize sm n (fun j => if j = q then 0 else S.T i j * x (S.ab j)) = A at *
      generalize sm n (fun j => if j = q then 0 else S.T p j * x (S.ab j)) = B at *
      have h1 : S.T i n * h = S.d * x (S.as i) + (S.T i q * x (S.ab q) + A) := hi'.symm
      have h2 : S.T p n * h = S.d * x (S.as p) + (S.T p q * x (S.ab q) + B) := hp.symm
      have : s * (S.T i n * S.T p q - S.T i q * S.T p n) * h = s * (S.T p q * (S.T i n * h) - S.T i q * (S.T p n * h)) := by grind
      rw [this, h1, h2]
      grind
    have hd := P.hd
    exact Int.eq_of_mul_eq_mul_left (by omega) key
theorem Piv.sol_iff (P : Piv n M S p q S') : Sol n M S x h ↔ Sol n M S' x h := ⟨P.sol, P.symm.sol⟩
end

/-! ### exactness: the tableau's numbers are determinants -/
/-- the vectors of the variables above, and the last unit vector -/
def rowsU (n : Nat) (S : Tb) (φ : Nat → Nat → Int) : Mat := fun r c => if r < n then φ (S.ab r) c else if c = n then 1 else 0
/-- the coefficient of row i at the vector l -/
def cf (n : Nat) (S : Tb) (i l : Nat) : Int := if l = n then S.T i n else - S.T i l
structure Good (n M : Nat) (φ : Nat → Nat → Int) (S : Tb) : Prop where
  hd : 0 < S.d
  vec : ∀ c, c ≤ n → Sol n M S (fun v => φ v c) (if c = n then 1 else 0)
  dt : ∃ σ : Int, (σ = 1 ∨ σ = -1) ∧ det (n + 1) (rowsU n S φ) = σ * S.d
section
variable {n M p q : Nat} {S S' : Tb} {φ : Nat → Nat → Int}
theorem Good.comb (G : Good n M φ S) {i c : Nat} (hi : i ≤ M) (hc : c ≤ n) : S.d * φ (S.as i) c = sm (n + 1) fun l => cf n S i l * rowsU n S φ l c := by
  have h := G.vec c hc i hi
  simp only [sm]
  have e1 : sm n (fun l => cf n S i l * rowsU n S φ l c) = - sm n (fun j => S.T i j * φ (S.ab j) c) := by
    rw [← sm_neg]
    refine sm_congr fun j hj => ?_
    unfold cf rowsU
    rw [if_neg (by omega), if_pos hj]; grind
  have e2 : cf n S i n * rowsU n S φ n c = S.T i n * (if c = n then 1 else 0) := by
    unfold cf rowsU
    rw [if_pos rfl, if_neg (by omega)]
  rw [e1, e2]
  have : S.d * φ (S.as i) c + sm n (fun j => S.T i j * φ (S.ab j) c) = S.T i n * (if c = n then 1 else 0) := h
  omega
theorem put_self {M : Mat} {a : Nat} : put M a (M a) = M := by
  funext r c; unfold put; split
  · next h => rw [h]
  · rfl
theorem Good.cramer (G : Good n M φ S) {σ : Int} (hs : σ = 1 ∨ σ = -1) (hD : det (n + 1) (rowsU n S φ) = σ * S.d) {i l : Nat} (hi : i ≤ M) (hl : l ≤ n) :
    det (n + 1) (put (rowsU n S φ) l (φ (S.as i))) = σ * cf n S i l := by
  have e : S.d * det (n + 1) (put (rowsU n S φ) l (φ (S.as i))) = cf n S i l * (σ * S.d) := by
    rw [← det_smul (by omega)]
    have : det (n + 1) (put (rowsU n S φ) l fun c => S.d * φ (S.as i) c) = det (n + 1) (put (rowsU n S φ) l fun c => sm (n + 1) fun k => cf n S i k * rowsU n S φ k c) := by
      refine det_congr fun r c _ hc => ?_
      unfold put; split
      · exact G.comb hi (by omega)
      · rfl
    rw [this, det_sum (by omega), sm_one (a := l) (by omega)]
    · rw [put_self, hD]
    · intro k hk ne
      rw [det_alt (a := l) (b := k) (by omega) hk (Ne.symm ne) fun c => by rw [put_same, put_ne ne]]
      simp
  have hd := G.hd
  refine Int.eq_of_mul_eq_mul_left (a := S.d) (by omega) ?_
  rw [e]; grind
/-- the 2 by 2 minors are divisible by the bottom -/
theorem Good.minor2 (G : Good n M φ S) {i p j q : Nat} (hi : i ≤ M) (hp : p ≤ M) (hj : j ≤ n) (hq : q < n) (ne : j ≠ q) : ∃ E : Int, S.d * E = S.T i j * S.T p q - S.T i q * S.T p j := by
  obtain ⟨σ, hs, hD⟩ := G.dt
  have ss : σ * σ = 1 := by rcases hs with rfl | rfl <;> rfl
  have e : S.d * det (n + 1) (put (put (rowsU n S φ) q (φ (S.as p))) j (φ (S.as i))) = σ * (cf n S i j * cf n S p q - cf n S i q * cf n S p j) := by
    rw [← det_smul (by omega)]
    have : det (n + 1) (put (put (rowsU n S φ) q (φ (S.as p))) j fun c => S.d * φ (S.as i) c) = det (n + 1) (put (put (rowsU n S φ) q (φ (S.as p))) j fun c => sm (n + 1) fun k => cf n S i k * rowsU n S φ k c) := by
      refine det_congr fun r c _ hc => ?_
      unfold put; split
      · exact G.comb hi (by omega)
      · rfl
    rw [this, det_sum (by omega), sm_two (a := j) (b := q) (by omega) (by omega) ne]
    · have e1 : put (put (rowsU n S φ) q (φ (S.as p))) j (rowsU n S φ j) = put (rowsU n S φ) q (φ (S.as p)) := by
        rw [put_comm ne.symm, put_self]
      have e2 : det (n + 1) (put (put (rowsU n S φ) q (φ (S.as p))) j (rowsU n S φ q)) = - det (n + 1) (put (rowsU n S φ) j (φ (S.as p))) := by
        rw [det_exch (by omega) (by omega) ne.symm, put_self]
      rw [e1, e2, G.cramer hs hD hp (by omega), G.cramer hs hD hp hj]
      grind
    · intro k hk n1 n2
      rw [det_alt (a := j) (b := k) (by omega) hk (Ne.symm n1) fun c => by rw [put_same, put_ne n1, put_ne n2]]
      simp
  have cq : ∀ i, cf n S i q = - S.T i q := fun i => by unfold cf; rw [if_neg (by omega)]
  rw [cq, cq] at e
  by_cases hjn : j = n
  · have cj : ∀ i, cf n S i j = S.T i j := fun i => by unfold cf; rw [if_pos hjn, hjn]
    rw [cj, cj] at e
    refine ⟨- σ * det (n + 1) (put (put (rowsU n S φ) q (φ (S.as p))) j (φ (S.as i))), ?_⟩
    have : S.d * (-σ * det (n + 1) (put (put (rowsU n S φ) q (φ (S.as p))) j (φ (S.as i)))) = - σ * (S.d * det (n + 1) (put (put (rowsU n S φ) q (φ (S.as p))) j (φ (S.as i)))) := by grind
    rw [this, e]; grind
  · have cj : ∀ i, cf n S i j = - S.T i j := fun i => by unfold cf; rw [if_neg hjn]
    rw [cj, cj] at e
    refine ⟨σ * det (n + 1) (put (put (rowsU n S φ) q (φ (S.as p))) j (φ (S.as i))), ?_⟩
    have : S.d * (σ * det (n + 1) (put (put (rowsU n S φ) q (φ (S.as p))) j (φ (S.as i)))) = σ * (S.d * det (n + 1) (put (put (rowsU n S φ) q (φ (S.as p))) j (φ (S.as i)))) := by grind
    rw [this, e]; grind
theorem Good.piv (G : Good n M φ S) (P : Piv n M S p q S') : Good n M φ S' := by
  obtain ⟨s, hs', e1, e2, -, -, -, -⟩ := P.s
  obtain ⟨σ, hs, hD⟩ := G.dt
  have hp := P.hp
  have hq := P.hq
  refine ⟨e2, fun c hc => P.sol (G.vec c hc), - σ * s, ?_, ?_⟩
  · rcases hs with rfl | rfl <;> rcases hs' with rfl | rfl <;> simp
  · have : det (n + 1) (rowsU n S' φ) = det (n + 1) (put (rowsU n S φ) q (φ (S.as p))) := by
      refine det_congr fun r c hr _ => ?_
      unfold rowsU put
      rw [P.ab]
      by_cases h1 : r = q
      · simp [h1, hq]
      · simp [h1]
    rw [this, G.cramer hs hD (by omega) (by omega), e1]
    unfold cf
    rw [if_neg (by omega)]
    have ss : s * s = 1 := by rcases hs' with rfl | rfl <;> rfl
    grind
/-- the bound of all numbers -/
def bnd (n B : Nat) : Nat := fact (n + 1) * B ^ (n + 1)
theorem Good.bound (G : Good n M φ S) {B : Nat} (hB : 1 ≤ B) (hφ : ∀ v c, c ≤ n → (φ v c).natAbs ≤ B) : S.d.natAbs ≤ bnd n B ∧ ∀ i l, i ≤ M → l ≤ n → (S.T i l).natAbs ≤ bnd n B := by
  obtain ⟨σ, hs, hD⟩ := G.dt
  have hs1 : σ.natAbs = 1 := by rcases hs with rfl | rfl <;> rfl
  have hU : ∀ r c, r < n + 1 → c < n + 1 → (rowsU n S φ r c).natAbs ≤ B := fun r c _ hc => by
    unfold rowsU
    split
    · exact hφ _ _ (by omega)
    · split
      · simpa using hB
      · simp
  refine ⟨?_, fun i l hi hl => ?_⟩
  · have := det_abs hU
    rw [hD, Int.natAbs_mul, hs1, Nat.one_mul] at this
    exact this
  · have := det_abs (n := n + 1) (M := put (rowsU n S φ) l (φ (S.as i))) (B := B) fun r c hr hc => by
      unfold put
      split
      · exact hφ _ _ (by omega)
      · exact hU r c hr hc
    rw [G.cramer hs hD hi hl, Int.natAbs_mul, hs1, Nat.one_mul] at this
    unfold cf at this
    split at this
    · next h => rw [h]; exact this
    · rwa [Int.natAbs_neg] at this
end
end Tab
/-! MTerm -/
/-! Termination: the window lemma, the least-index rules. -/
namespace Term
open Det Tab
/-- the first place of a range at which P holds -/
theorem first_in (P : Nat → Prop) (lo : Nat) : ∀ k, (∃ s, lo ≤ s ∧ s < lo + k ∧ P s) → ∃ s, lo ≤ s ∧ s < lo + k ∧ P s ∧ ∀ r, lo ≤ r → r < s → ¬ P r
  | 0, ⟨s, h1, h2, _⟩ => by omega
  | k + 1, ⟨s, h1, h2, h3⟩ => by
    by_cases e : ∃ s, lo ≤ s ∧ s < lo + k ∧ P s
    · obtain ⟨s, a, b, c, d⟩ := first_in P lo k e
      exact ⟨s, a, by omega, c, d⟩
    · refine ⟨s, h1, h2, h3, fun r hr hs hP => e ⟨r, hr, by omega, hP⟩⟩
/-- A k v: v stands above at time k; lv k leaves its row (comes above), en k enters -/
theorem window (A : Nat → Nat → Prop) (lv en : Nat → Nat) (lo hi : Nat)
    (H : ∀ k, lo ≤ k → k < hi → (∀ v, A (k + 1) v ↔ (v = lv k ∨ (A k v ∧ v ≠ en k))) ∧ ¬ A k (lv k) ∧ A k (en k))
    (X : ∀ a b t, lo ≤ a → a < hi → lo ≤ b → b < hi → lv a = t → en b = t → en a < t → lv b < t → (∀ v, t < v → (A a v ↔ A b v)) → False) :
    ∀ m l h, lo ≤ l → l ≤ h → h ≤ hi → (∀ k, l ≤ k → k < h → lv k < m ∧ en k < m) → h - l < 2 ^ m
  | 0, l, h, h1, h2, h3, hv => by
    by_cases e : l = h
    · subst e; simp
    · have := hv l (Nat.le_refl _) (by omega)
      omega
  | m + 1, l, h, h1, h2, h3, hv => by
    have pw : 2 ^ (m + 1) = 2 ^ m + 2 ^ m := by rw [Nat.pow_succ]; omega
    have stat : ∀ (v a b : Nat), l ≤ a → a ≤ b → b ≤ h → (∀ k, a ≤ k → k < b → lv k ≠ v ∧ en k ≠ v) → (A a v ↔ A b v) := by
      intro v a b ha hab hb hn
      obtain ⟨d, rfl⟩ : ∃ d, b = a + d := ⟨b - a, by omega⟩
      clear hab
      induction d with
      | zero => exact Iff.rfl
      | succ d ih =>
        have i1 := ih (by omega) fun k hk hk' => hn k hk (by omega)
        have := (H (a + d) (by omega) (by omega)).1 v
        have nn := hn (a + d) (by omega) (by omega)
        rw [i1]
        show A (a + d) v ↔ A (a + d + 1) v
        rw [this]
        constructor
        · intro hA; exact .inr ⟨hA, fun z => nn.2 z.symm⟩
        · rintro (z | ⟨z, _⟩)
          · exact absurd z.symm nn.1
          · exact z
    have gt : ∀ (a b : Nat), l ≤ a → a < h → l ≤ b → b < h → ∀ v, m < v → (A a v ↔ A b v) := by
      intro a b ha ha' hb hb' v hv'
      have none : ∀ k, l ≤ k → k < h → lv k ≠ v ∧ en k ≠ v := fun k k1 k2 => by
        have := hv k k1 k2
        constructor <;> omega
      by_cases hab : a ≤ b
      · exact stat v a b ha hab (by omega) fun k k1 k2 => none k (by omega) (by omega)
      · exact (stat v b a hb (by omega) (by omega) fun k k1 k2 => none k (by omega) (by omega)).symm
    by_cases ex : ∃ s, l ≤ s ∧ s < l + (h - l) ∧ (lv s = m ∨ en s = m)
    · obtain ⟨s, s1, s2, s3, s4⟩ := first_in (fun s => lv s = m ∨ en s = m) l (h - l) ex
      have left := window A lv en lo hi H X m l s h1 s1 (by omega) fun k k1 k2 => by
        have a := hv k k1 (by omega)
        have b := s4 k k1 k2
        exact ⟨by omega, by omega⟩
      have right := window A lv en lo hi H X m (s + 1) h (by omega) (by omega) h3 fun k k1 k2 => by
        have a := hv k (by omega) k2
        have b : ¬ (lv k = m ∨ en k = m) := by
          intro hk
          obtain ⟨r, r1, r2, r3, r4⟩ := first_in (fun s => lv s = m ∨ en s = m) (s + 1) (h - (s + 1)) ⟨k, k1, by omega, hk⟩
          have hs := H s (by omega) (by omega)
          have hr := H r (by omega) (by omega)
          have vs := hv s s1 (by omega)
          have vr := hv r (by omega) (by omega)
          have st := stat m (s + 1) r (by omega) r1 (by omega) fun k k1 k2 => by
            have := r4 k k1 k2
            exact ⟨fun z => this (.inl z), fun z => this (.inr z)⟩
          have ne_s : lv s ≠ en s := fun z => hs.2.1 (z ▸ hs.2.2)
          have ne_r : lv r ≠ en r := fun z => hr.2.1 (z ▸ hr.2.2)
          rcases s3 with e | e
          · have a1 : A (s + 1) m := (hs.1 m).mpr (.inl e.symm)
            have a2 : A r m := st.mp a1
            have e2 : en r = m := by
              rcases r3 with z | z
              · exact absurd a2 (z ▸ hr.2.1)
              · exact z
            exact X s r m (by omega) (by omega) (by omega) (by omega) e e2 (by omega) (by omega) (gt s r s1 (by omega) (by omega) (by omega))
          · have a1 : ¬ A (s + 1) m := fun z => by
              rcases (hs.1 m).mp z with q | q
              · omega
              · exact q.2 e.symm
            have a2 : ¬ A r m := fun z => a1 (st.mpr z)
            have e2 : lv r = m := by
              rcases r3 with z | z
              · exact z
              · exact absurd (z ▸ hr.2.2) a2
            exact X r s m (by omega) (by omega) (by omega) (by omega) e2 e (by omega) (by omega) (gt r s (by omega) (by omega) s1 (by omega))
        exact ⟨by omega, by omega⟩
      omega
    · have := window A lv en lo hi H X m l h h1 h2 h3 fun k k1 k2 => by
        have a := hv k k1 k2
        have b : ¬ (lv k = m ∨ en k = m) := fun z => ex ⟨k, k1, by omega, z⟩
        exact ⟨by omega, by omega⟩
      omega

/-! ### what stands where -/
/-- the variables above and of the rows are n + M + 1 different numbers below n + M, but the aim's, N; N is n + M -/
structure Vars (n M : Nat) (S : Tb) : Prop where
  abI : ∀ j j', j < n → j' < n → S.ab j = S.ab j' → j = j'
  asI : ∀ i i', i ≤ M → i' ≤ M → S.as i = S.as i' → i = i'
  dis : ∀ j i, j < n → i ≤ M → S.ab j ≠ S.as i
  abL : ∀ j, j < n → S.ab j < n + M
  asL : ∀ i, i < M → S.as i < n + M
  aim : S.as M = n + M
  all : ∀ v, v < n + M → (∃ j, j < n ∧ S.ab j = v) ∨ (∃ i, i < M ∧ S.as i = v)
def Abv (n : Nat) (S : Tb) (v : Nat) : Prop := ∃ j, j < n ∧ S.ab j = v
section
variable {n M p q : Nat} {S S' : Tb}
theorem Vars.piv (V : Vars n M S) (P : Piv n M S p q S') : Vars n M S' := by
  have hp := P.hp
  have hq := P.hq
  refine ⟨fun j j' hj hj' e => ?_, fun i i' hi hi' e => ?_, fun j i hj hi e => ?_, fun j hj => ?_, fun i hi => ?_, ?_, fun v hv => ?_⟩
  · rw [P.ab] at e
    by_cases h1 : j = q <;> by_cases h2 : j' = q <;> simp only [h1, h2, if_true, if_false] at e
    · omega
    · exact absurd e.symm (V.dis _ _ hj' (by omega))
    · exact absurd e (V.dis _ _ hj (by omega))
    · exact V.abI _ _ hj hj' e
  · rw [P.as] at e
    by_cases h1 : i = p <;> by_cases h2 : i' = p <;> simp only [h1, h2, if_true, if_false] at e
    · omega
    · exact absurd e (V.dis _ _ hq hi')
    · exact absurd e.symm (V.dis _ _ hq hi)
    · exact V.asI _ _ hi hi' e
  · rw [P.as, P.ab] at e
    by_cases h1 : j = q <;> by_cases h2 : i = p <;> simp only [h1, h2, if_true, if_false] at e
    · exact V.dis _ _ hq (by omega) e.symm
    · exact h2 (V.asI _ _ (by omega) hi e).symm
    · exact h1 (V.abI _ _ hj hq e)
    · exact V.dis _ _ hj hi e
  · rw [P.ab]; dsimp only
    split
    · exact V.asL _ hp
    · exact V.abL _ hj
  · rw [P.as]; dsimp only
    split
    · exact V.abL _ hq
    · exact V.asL _ hi
  · rw [P.as]; dsimp only
    rw [if_neg (by omega)]; exact V.aim
  · rw [P.as, P.ab]
    rcases V.all v hv with ⟨j, hj, e⟩ | ⟨i, hi, e⟩
    · by_cases h : j = q
      · exact .inr ⟨p, hp, by simp [← h, e]⟩
      · exact .inl ⟨j, hj, by simp [h, e]⟩
    · by_cases h : i = p
      · exact .inl ⟨q, hq, by simp [← h, e]⟩
      · exact .inr ⟨i, hi, by simp [h, e]⟩
theorem Vars.abv (V : Vars n M S) (P : Piv n M S p q S') : (∀ v, Abv n S' v ↔ (v = S.as p ∨ (Abv n S v ∧ v ≠ S.ab q))) ∧ ¬ Abv n S (S.as p) ∧ Abv n S (S.ab q) := by
  have hp := P.hp
  have hq := P.hq
  refine ⟨fun v => ⟨fun ⟨j, hj, e⟩ => ?_, fun h => ?_⟩, fun ⟨j, hj, e⟩ => V.dis _ _ hj (by omega) e, ⟨q, hq, rfl⟩⟩
  · rw [P.ab] at e; dsimp only at e
    by_cases h : j = q
    · rw [if_pos h] at e; exact .inl e.symm
    · rw [if_neg h] at e
      exact .inr ⟨⟨j, hj, e⟩, fun z => h (V.abI _ _ hj hq (e.trans z))⟩
  · rcases h with h | ⟨⟨j, hj, e⟩, h⟩
    · exact ⟨q, hq, by rw [P.ab]; simp [h]⟩
    · refine ⟨j, hj, ?_⟩
      rw [P.ab]; dsimp only
      rw [if_neg (fun z => h (by rw [← e, z]))]; exact e
/-- numbers put at all variables -/
theorem Vars.put (V : Vars n M S) (f g : Nat → Int) : ∃ x : Nat → Int, (∀ j, j < n → x (S.ab j) = f j) ∧ (∀ i, i ≤ M → x (S.as i) = g i) := by
  classical
  refine ⟨fun v => if h : ∃ j, j < n ∧ S.ab j = v then f (Classical.choose h) else if h : ∃ i, i ≤ M ∧ S.as i = v then g (Classical.choose h) else 0, fun j hj => ?_, fun i hi => ?_⟩
  · have h : ∃ j', j' < n ∧ S.ab j' = S.ab j := ⟨j, hj, rfl⟩
    dsimp only
    rw [dif_pos h]
    obtain ⟨h1, h2⟩ := Classical.choose_spec h
    rw [V.abI _ _ h1 hj h2]
  · have h0 : ¬ ∃ j, j < n ∧ S.ab j = S.as i := fun ⟨j, hj, e⟩ => V.dis _ _ hj hi e
    have h : ∃ i', i' ≤ M ∧ S.as i' = S.as i := ⟨i, hi, rfl⟩
    dsimp only
    rw [dif_neg h0, dif_pos h]
    obtain ⟨h1, h2⟩ := Classical.choose_spec h
    rw [V.asI _ _ h1 hi h2]
/-- the solution of the tableau: nothing above -/
theorem Vars.base (V : Vars n M S) : ∃ x : Nat → Int, (∀ j, j < n → x (S.ab j) = 0) ∧ (∀ i, i ≤ M → x (S.as i) = S.T i n) ∧ Sol n M S x S.d := by
  obtain ⟨x, h1, h2⟩ := V.put (fun _ => 0) fun i => S.T i n
  refine ⟨x, h1, h2, fun i hi => ?_⟩
  rw [sm_zero fun j hj => by rw [h1 j hj]; simp, h2 i hi]; grind
/-- the direction of column q -/
theorem Vars.dir (V : Vars n M S) (hq : q < n) : ∃ x : Nat → Int, (∀ j, j < n → x (S.ab j) = if j = q then S.d else 0) ∧ (∀ i, i ≤ M → x (S.as i) = - S.T i q) ∧ Sol n M S x 0 := by
  obtain ⟨x, h1, h2⟩ := V.put (fun j => if j = q then S.d else 0) fun i => - S.T i q
  refine ⟨x, h1, h2, fun i hi => ?_⟩
  rw [sm_one (a := q) hq fun j hj ne => by rw [h1 j hj, if_neg ne]; simp, h2 i hi, h1 q hq, if_pos rfl]; grind
end
theorem sm_nonneg {n : Nat} {f : Nat → Int} (h : ∀ i, i < n → 0 ≤ f i) : 0 ≤ sm n f := by
  induction n with
  | zero => simp [sm]
  | succ n ih =>
    simp only [sm]
    have := ih fun i hi => h i (by omega)
    have := h n (by omega)
    omega

/-! ### settle -/
/-- the row of the first variable below nought, and the column of the first variable whose entry in it is below nought -/
structure StepS (n M : Nat) (S : Tb) (p q : Nat) : Prop where
  hp : p < M
  low : S.T p n < 0
  lowest : ∀ i, i < M → S.T i n < 0 → S.as p ≤ S.as i
  hq : q < n
  neg : S.T p q < 0
  first : ∀ j, j < n → S.T p j < 0 → S.ab q ≤ S.ab j
/-- no variable leaves by one and enters by the other -/
theorem no_pair_S {n M p1 q1 p2 q2 t : Nat} {S1 S2 : Tb} (V1 : Vars n M S1) (V2 : Vars n M S2) (d1 : 0 < S1.d) (d2 : 0 < S2.d) (sol : ∀ x h, Sol n M S1 x h → Sol n M S2 x h)
    (A1 : StepS n M S1 p1 q1) (A2 : StepS n M S2 p2 q2) (h1 : S1.as p1 = t) (h2 : S2.ab q2 = t) (h3 : S2.as p2 < t) (st : ∀ v, t < v → (Abv n S1 v ↔ Abv n S2 v)) : False := by
  obtain ⟨x, x1, x2, xs⟩ := V1.base
  have eq := sol x _ xs p2 (Nat.le_of_lt A2.hp)
  have small : ∀ v, v < t → 0 ≤ x v := fun v hv => by
    have : t < n + M := h1 ▸ V1.asL _ A1.hp
    rcases V1.all v (by omega) with ⟨j, hj, e⟩ | ⟨i, hi, e⟩
    · rw [← e, x1 j hj]; omega
    · rw [← e, x2 i (by omega)]
      have := A1.lowest i hi
      omega
  have xt : x t < 0 := by rw [← h1, x2 p1 (Nat.le_of_lt A1.hp)]; exact A1.low
  have terms : 0 ≤ sm n fun j => S2.T p2 j * x (S2.ab j) := sm_nonneg fun j hj => by
    rcases Nat.lt_trichotomy (S2.ab j) t with l | e | g
    · have : 0 ≤ S2.T p2 j := by
        have := A2.first j hj
        omega
      exact Int.mul_nonneg this (small _ l)
    · have : j = q2 := V2.abI _ _ hj A2.hq (e.trans h2.symm)
      subst this
      rw [e]
      have := Int.mul_nonneg (a := - S2.T p2 j) (b := - x t) (by have := A2.neg; omega) (by omega)
      rwa [Int.neg_mul_neg] at this
    · obtain ⟨j', hj', e⟩ := (st _ g).mpr ⟨j, hj, rfl⟩
      rw [← e, x1 j' hj']; simp
  have l1 : 0 ≤ S2.d * x (S2.as p2) := Int.mul_nonneg (by omega) (small _ h3)
  have l2 : S2.T p2 n * S1.d < 0 := Int.mul_neg_of_neg_of_pos A2.low d1
  omega

/-! ### climb -/
structure StepC (n M : Nat) (S : Tb) (p q : Nat) : Prop where
  hq : q < n
  neg : S.T M q < 0
  first : ∀ j, j < n → S.T M j < 0 → S.ab q ≤ S.ab j
  hp : p < M
  pos : 0 < S.T p q
  tight : ∀ i, i < M → 0 < S.T i q → S.T p n * S.T i q ≤ S.T i n * S.T p q
  tie : ∀ i, i < M → 0 < S.T i q → S.T p n * S.T i q = S.T i n * S.T p q → S.as p ≤ S.as i
theorem no_pair_C {n M p1 q1 p2 q2 t : Nat} {S1 S2 : Tb} (V1 : Vars n M S1) (V2 : Vars n M S2) (d1 : 0 < S1.d) (d2 : 0 < S2.d) (sol : ∀ x h, Sol n M S2 x h → Sol n M S1 x h)
    (A1 : StepC n M S1 p1 q1) (A2 : StepC n M S2 p2 q2) (h1 : S1.ab q1 = t) (h2 : S2.as p2 = t) (h3 : S2.ab q2 < t) (st : ∀ v, t < v → (Abv n S1 v ↔ Abv n S2 v))
    (dg : S2.T p2 n = 0) (val : ∀ j i, j < n → i < M → S1.ab j = S2.as i → S2.T i n = 0) : False := by
  obtain ⟨x, x1, x2, xs⟩ := V2.dir A2.hq
  have eq := sol x _ xs M (Nat.le_refl _)
  have aim : x (S1.as M) = - S2.T M q2 := by rw [V1.aim, ← V2.aim, x2 M (Nat.le_refl _)]
  have terms : 0 ≤ sm n fun j => S1.T M j * x (S1.ab j) := sm_nonneg fun j hj => by
    rcases Nat.lt_trichotomy (S1.ab j) t with l | e | g
    · have c : 0 ≤ S1.T M j := by
        have := A1.first j hj
        omega
      refine Int.mul_nonneg c ?_
      have : t < n + M := h1 ▸ V1.abL _ A1.hq
      rcases V2.all (S1.ab j) (by omega) with ⟨j', hj', e⟩ | ⟨i, hi, e⟩
      · rw [← e, x1 j' hj']; split <;> omega
      · rw [← e, x2 i (by omega)]
        by_cases hpos : 0 < S2.T i q2
        · have z := val j i hj hi e.symm
          have := A2.tie i hi hpos (by rw [dg, z]; simp)
          omega
        · omega
    · have : j = q1 := V1.abI _ _ hj A1.hq (e.trans h1.symm)
      subst this
      rw [e, ← h2, x2 p2 (Nat.le_of_lt A2.hp)]
      have := Int.mul_nonneg (a := - S1.T M j) (b := S2.T p2 q2) (by have := A1.neg; omega) (by have := A2.pos; omega)
      grind
    · obtain ⟨j', hj', e⟩ := (st _ g).mp ⟨j, hj, rfl⟩
      rw [← e, x1 j' hj', if_neg (fun z => by rw [z] at e; omega)]; simp
  have l1 : 0 < S1.d * x (S1.as M) := by
    rw [aim]
    exact Int.mul_pos d1 (by have := A2.neg; omega)
  omega
end Term
/-! MRun -/
/-! Runs end. -/
namespace Term
open Det Tab
section
variable {n M : Nat} {φ : Nat → Nat → Int}
/-- a run of exchanges of K turns -/
structure Run (n M : Nat) (R : Tb → Nat → Nat → Prop) (seq : Nat → Tb) (p q : Nat → Nat) (K : Nat) : Prop where
  v0 : Vars n M (seq 0)
  step : ∀ k, k < K → R (seq k) (p k) (q k) ∧ Piv n M (seq k) (p k) (q k) (seq (k + 1))
variable {R : Tb → Nat → Nat → Prop} {seq : Nat → Tb} {p q : Nat → Nat} {K : Nat}
theorem Run.vars (r : Run n M R seq p q K) : ∀ k, k ≤ K → Vars n M (seq k)
  | 0, _ => r.v0
  | k + 1, h => (r.vars k (by omega)).piv (r.step k (by omega)).2
theorem Run.sol0 (r : Run n M R seq p q K) {x : Nat → Int} {h : Int} : ∀ k, k ≤ K → (Sol n M (seq 0) x h ↔ Sol n M (seq k) x h)
  | 0, _ => Iff.rfl
  | k + 1, hk => (r.sol0 k (by omega)).trans (r.step k (by omega)).2.sol_iff
theorem Run.sol (r : Run n M R seq p q K) {x : Nat → Int} {h : Int} {a b : Nat} (ha : a ≤ K) (hb : b ≤ K) : Sol n M (seq a) x h ↔ Sol n M (seq b) x h := (r.sol0 a ha).symm.trans (r.sol0 b hb)
theorem Run.good (r : Run n M R seq p q K) (G : Good n M φ (seq 0)) : ∀ k, k ≤ K → Good n M φ (seq k)
  | 0, _ => G
  | k + 1, h => (r.good G k (by omega)).piv (r.step k (by omega)).2
theorem Run.H (r : Run n M R seq p q K) : ∀ k, 0 ≤ k → k < K → (∀ v, Abv n (seq (k + 1)) v ↔ (v = (seq k).as (p k) ∨ (Abv n (seq k) v ∧ v ≠ (seq k).ab (q k)))) ∧ ¬ Abv n (seq k) ((seq k).as (p k)) ∧ Abv n (seq k) ((seq k).ab (q k)) :=
  fun k _ hk => (r.vars k (by omega)).abv (r.step k hk).2
theorem Run.small (r : Run n M R seq p q K) (k : Nat) (hk : k < K) : (seq k).as (p k) < n + M ∧ (seq k).ab (q k) < n + M :=
  ⟨(r.vars k (by omega)).asL _ (r.step k hk).2.hp, (r.vars k (by omega)).abL _ (r.step k hk).2.hq⟩
theorem settle_ends (r : Run n M (StepS n M) seq p q K) : K < 2 ^ (n + M) := by
  have := window (fun k => Abv n (seq k)) (fun k => (seq k).as (p k)) (fun k => (seq k).ab (q k)) 0 K r.H (fun a b t _ ha _ hb e1 e2 _ l2 st => ?_) (n + M) 0 K (Nat.le_refl _) (by omega) (Nat.le_refl _) fun k _ hk => r.small k hk
  · simpa using this
  · exact no_pair_S (r.vars a (by omega)) (r.vars b (by omega)) (r.step a ha).2.hd (r.step b hb).2.hd (fun x h => (r.sol (by omega) (by omega)).mp) (r.step a ha).1 (r.step b hb).1 e1 e2 l2 st
/-- nothing is below nought -/
def Feas (n M : Nat) (S : Tb) : Prop := ∀ i, i < M → 0 ≤ S.T i n
theorem StepC.one {S S' : Tb} {p q : Nat} (A : StepC n M S p q) (P : Piv n M S p q S') : S'.d = S.T p q ∧ (∀ j, j ≤ n → j ≠ q → S'.T p j = S.T p j) ∧
    (∀ i, i ≤ M → i ≠ p → ∀ j, j ≤ n → j ≠ q → S.d * S'.T i j = S.T i j * S.T p q - S.T i q * S.T p j) := by
  obtain ⟨s, hs, e1, e2, e3, e4, e5, e6⟩ := P.s
  have hp := A.pos
  have : s = 1 := by
    rcases hs with h | h
    · exact h
    · subst h; omega
  subst this
  exact ⟨by omega, fun j a b => by rw [e3 j a b]; omega, fun i a b j c d => by rw [e6 i a b j c d]; omega⟩
theorem StepC.feas {S S' : Tb} {p q : Nat} (A : StepC n M S p q) (P : Piv n M S p q S') (F : Feas n M S) : Feas n M S' := by
  obtain ⟨e1, e2, e3⟩ := A.one P
  have hq := P.hq
  intro i hi
  by_cases h : i = p
  · rw [h, e2 n (Nat.le_refl _) (by omega)]; exact F p A.hp
  · have e := e3 i (by omega) h n (Nat.le_refl _) (by omega)
    have ge : 0 ≤ S.T i n * S.T p q - S.T i q * S.T p n := by
      by_cases hpos : 0 < S.T i q
      · have := A.tight i hi hpos
        grind
      · have h1 := Int.mul_nonneg (F i hi) (Int.le_of_lt A.pos)
        have h2 := Int.mul_nonneg (a := - S.T i q) (b := S.T p n) (by omega) (F p A.hp)
        grind
    have hd := P.hd
    rw [← e] at ge
    exact Int.nonneg_of_mul_nonneg_right ge hd
theorem StepC.obj {S S' : Tb} {p q : Nat} (A : StepC n M S p q) (P : Piv n M S p q S') (F : Feas n M S) : S.T M n * S'.d + (if S.T p n = 0 then 0 else 1) ≤ S'.T M n * S.d := by
  obtain ⟨e1, e2, e3⟩ := A.one P
  have hq := P.hq
  have hp := P.hp
  have e := e3 M (Nat.le_refl _) (by omega) n (Nat.le_refl _) (by omega)
  have h0 := F p hp
  have hneg := A.neg
  have : (if S.T p n = 0 then 0 else 1) ≤ - (S.T M q * S.T p n) := by
    split
    · next h => rw [h]; simp
    · next h =>
      have := Int.mul_pos (a := - S.T M q) (b := S.T p n) (by omega) (by omega)
      have e' : - S.T M q * S.T p n = - (S.T M q * S.T p n) := Int.neg_mul _ _
      omega
  rw [e1]
  have e' : S'.T M n * S.d = S.T M n * S.T p q - S.T M q * S.T p n := by rw [← e]; exact Int.mul_comm _ _
  omega
/-- v's worth is 0 -/
def Nought (n M : Nat) (S : Tb) (v : Nat) : Prop := Abv n S v ∨ ∃ i, i < M ∧ S.as i = v ∧ S.T i n = 0
theorem StepC.nought {S S' : Tb} {p q : Nat} (A : StepC n M S p q) (P : Piv n M S p q S') (hz : S.T p n = 0) (v : Nat) : Nought n M S v → Nought n M S' v := by
  obtain ⟨e1, e2, e3⟩ := A.one P
  have hq := P.hq
  have hp := P.hp
  rintro (⟨j, hj, e⟩ | ⟨i, hi, e, z⟩)
  · by_cases h : j = q
    · refine .inr ⟨p, hp, ?_, ?_⟩
      · rw [P.as]; simp [← h, e]
      · rw [e2 n (Nat.le_refl _) (by omega)]; exact hz
    · refine .inl ⟨j, hj, ?_⟩
      rw [P.ab]; simp [h, e]
  · by_cases h : i = p
    · refine .inl ⟨q, hq, ?_⟩
      rw [P.ab]; simp [← h, e]
    · refine .inr ⟨i, hi, ?_, ?_⟩
      · rw [P.as]; simp [h, e]
      · have e := e3 i (by omega) h n (Nat.le_refl _) (by omega)
        rw [z, hz] at e
        have hd := P.hd
        have : S.d * S'.T i n = 0 := by rw [e]; simp
        rcases Int.mul_eq_zero.mp this with h | h
        · omega
        · exact h
theorem StepC.nought' {S S' : Tb} {p q : Nat} (A : StepC n M S p q) (P : Piv n M S p q S') (hz : S.T p n = 0) (v : Nat) : Nought n M S' v → Nought n M S v := by
  obtain ⟨e1, e2, e3⟩ := A.one P
  have hq := P.hq
  have hp := P.hp
  rintro (⟨j, hj, e⟩ | ⟨i, hi, e, z⟩)
  · rw [P.ab] at e; dsimp only at e
    by_cases h : j = q
    · rw [if_pos h] at e
      exact .inr ⟨p, hp, e, hz⟩
    · rw [if_neg h] at e
      exact .inl ⟨j, hj, e⟩
  · rw [P.as] at e; dsimp only at e
    by_cases h : i = p
    · rw [if_pos h] at e
      exact .inl ⟨q, hq, e⟩
    · rw [if_neg h] at e
      refine .inr ⟨i, hi, e, ?_⟩
      have e := e3 i (by omega) h n (Nat.le_refl _) (by omega)
      rw [z, hz] at e
      have hd := A.pos
      have : S.T i n * S.T p q = 0 := by omega
      rcases Int.mul_eq_zero.mp this with h | h
      · exact h
      · omega
theorem Run.nought (r : Run n M (StepC n M) seq p q K) {lo : Nat} (v : Nat) : ∀ k, lo + k ≤ K → (∀ i, lo ≤ i → i < lo + k → (seq i).T (p i) n = 0) → (Nought n M (seq lo) v ↔ Nought n M (seq (lo + k)) v)
  | 0, _, _ => Iff.rfl
  | k + 1, h, z => by
    have s := r.step (lo + k) (by omega)
    have zz := z (lo + k) (by omega) (by omega)
    exact (r.nought v k (by omega) fun i a b => z i a (by omega)).trans ⟨s.1.nought s.2 zz v, s.1.nought' s.2 zz v⟩
/-- turns that change no worth are few -/
theorem Run.flat (r : Run n M (StepC n M) seq p q K) {lo hi : Nat} (hlh : lo ≤ hi) (hK : hi ≤ K) (z : ∀ i, lo ≤ i → i < hi → (seq i).T (p i) n = 0) : hi - lo < 2 ^ (n + M) := by
  have nn : ∀ v a b, lo ≤ a → a ≤ hi → lo ≤ b → b ≤ hi → (Nought n M (seq a) v ↔ Nought n M (seq b) v) := fun v a b a1 a2 b1 b2 => by
    have ea := r.nought (lo := lo) v (a - lo) (by omega) fun i h1 h2 => z i h1 (by omega)
    have eb := r.nought (lo := lo) v (b - lo) (by omega) fun i h1 h2 => z i h1 (by omega)
    rw [show lo + (a - lo) = a by omega] at ea
    rw [show lo + (b - lo) = b by omega] at eb
    exact ea.symm.trans eb
  refine window (fun k => Abv n (seq k)) (fun k => (seq k).as (p k)) (fun k => (seq k).ab (q k)) lo hi (fun k _ h => r.H k (by omega) (by omega)) (fun a b t a0 ha b0 hb e1 e2 l1 _ st => ?_) (n + M) lo hi (Nat.le_refl _) hlh (Nat.le_refl _) fun k _ hk => r.small k (by omega)
  refine no_pair_C (r.vars b (by omega)) (r.vars a (by omega)) (r.step b (by omega)).2.hd (r.step a (by omega)).2.hd (fun x h => (r.sol (by omega) (by omega)).mp) (r.step b (by omega)).1 (r.step a (by omega)).1 e2 e1 l1 (fun v hv => (st v hv).symm) (z a a0 ha) fun j i hj hi' e => ?_
  have h1 : Nought n M (seq b) ((seq b).ab j) := .inl ⟨j, hj, rfl⟩
  rcases (nn _ b a b0 (by omega) a0 (by omega)).mp h1 with ⟨j', hj', e'⟩ | ⟨i', hi'', e', zz⟩
  · exact absurd (e'.trans e) ((r.vars a (by omega)).dis _ _ hj' (by omega))
  · have : i' = i := (r.vars a (by omega)).asI _ _ (by omega) (by omega) (e'.trans e)
    rw [← this]; exact zz
/-- the measure of the aim -/
def mea (n M : Nat) (D : Int) (S : Tb) : Int := S.T M n * (D * D) / S.d
theorem mea_step {S S' : Tb} {D : Int} {c : Int} (h0 : 0 < S.d) (h1 : 0 < S'.d) (l0 : S.d ≤ D) (l1 : S'.d ≤ D) (hc : 0 ≤ c) (hc1 : c ≤ 1) (e : S.T M n * S'.d + c ≤ S'.T M n * S.d) : mea n M D S + c ≤ mea n M D S' := by
  unfold mea
  have a1 : S.T M n * (D * D) / S.d * S.d ≤ S.T M n * (D * D) := Int.ediv_mul_le _ (by omega)
  generalize S.T M n * (D * D) / S.d = a at *
  refine Int.le_ediv_of_mul_le h1 ?_
  refine Int.le_of_mul_le_mul_right (a := S.d) ?_ h0
  have dd : S.d * S'.d ≤ D * D := Int.mul_le_mul l0 l1 (by omega) (by omega)
  have DD : 0 ≤ D * D := Int.mul_nonneg (by omega) (by omega)
  have b1 := Int.mul_le_mul_of_nonneg_right e DD
  have b2 := Int.mul_le_mul_of_nonneg_right a1 (show 0 ≤ S'.d by omega)
  have b3 := Int.mul_le_mul_of_nonneg_left dd hc
  grind
theorem climb_ends (r : Run n M (StepC n M) seq p q K) (F0 : Feas n M (seq 0)) {D : Nat} (hD : ∀ k, k ≤ K → (seq k).d.natAbs ≤ D ∧ ((seq k).T M n).natAbs ≤ D) (d0 : 0 < (seq 0).d) : K < (2 * (D * (D * D)) + 1) * 2 ^ (n + M) := by
  obtain ⟨W, hW⟩ : ∃ W, W = 2 ^ (n + M) := ⟨_, rfl⟩
  have hWp : 0 < W := hW ▸ Nat.two_pow_pos _
  rw [← hW]

  have F : ∀ k, k ≤ K → Feas n M (seq k) := fun k => by
    induction k with
    | zero => intro _; exact F0
    | succ k ih => intro h; exact (r.step k (by omega)).1.feas (r.step k (by omega)).2 (ih (by omega))
  have pd : ∀ k, k ≤ K → 0 < (seq k).d := fun k hk => by
    cases k with
    | zero => exact d0
    | succ k => exact (r.step k (by omega)).2.symm.hd
  have st : ∀ k, k < K → mea n M D (seq k) + (if (seq k).T (p k) n = 0 then 0 else 1) ≤ mea n M D (seq (k + 1)) := fun k hk => by
    have a := hD k (by omega)
    have b := hD (k + 1) (by omega)
    have pa := pd k (by omega)
    have pb := pd (k + 1) (by omega)
    refine mea_step pa pb (by omega) (by omega) (by split <;> omega) (by split <;> omega) ?_
    exact (r.step k hk).1.obj (r.step k hk).2 (F k (by omega))
  have mono : ∀ j a, a + j ≤ K → mea n M D (seq a) ≤ mea n M D (seq (a + j)) := fun j => by
    induction j with
    | zero => intro a _; exact Int.le_refl _
    | succ j ih =>
      intro a h
      have h1 := ih a (by omega)
      have h2 := st (a + j) (by omega)
      have : (if (seq (a + j)).T (p (a + j)) n = 0 then (0 : Int) else 1) ≥ 0 := by split <;> omega
      show mea n M D (seq a) ≤ mea n M D (seq (a + j + 1))
      omega
  have blocks : ∀ j, j * W ≤ K → mea n M D (seq 0) + j ≤ mea n M D (seq (j * W)) := fun j => by
    induction j with
    | zero => intro _; simp
    | succ j ih =>
      intro h
      have ex : (j + 1) * W = j * W + W := Nat.succ_mul _ _
      have h1 := ih (by omega)
      by_cases z : ∀ i, j * W ≤ i → i < (j + 1) * W → (seq i).T (p i) n = 0
      · have := r.flat (lo := j * W) (hi := (j + 1) * W) (by omega) h z
        rw [← hW] at this
        omega
      · obtain ⟨i, hi⟩ := Classical.not_forall.mp z
        obtain ⟨i1, hi⟩ := Classical.not_imp.mp hi
        obtain ⟨i2, hi⟩ := Classical.not_imp.mp hi
        have h2 := st i (by omega)
        rw [if_neg hi] at h2
        have h3 := mono (i - j * W) (j * W) (by omega)
        have h4 := mono ((j + 1) * W - (i + 1)) (i + 1) (by omega)
        rw [show j * W + (i - j * W) = i by omega] at h3
        rw [show i + 1 + ((j + 1) * W - (i + 1)) = (j + 1) * W by omega] at h4
        rw [Int.natCast_add]; omega
  refine Decidable.byContradiction fun hn => ?_
  have hb := blocks (2 * (D * (D * D)) + 1) (by omega)
  have bd : ∀ k, k ≤ K → mea n M D (seq k) ≤ (D * (D * D) : Nat) ∧ - ((D * (D * D) : Nat) : Int) ≤ mea n M D (seq k) := fun k hk => by
    have a := hD k hk
    have pa := pd k hk
    unfold mea
    have DD : (0 : Int) ≤ (D : Int) * D := Int.mul_nonneg (by omega) (by omega)
    have t1 : (seq k).T M n ≤ D := by omega
    have t2 : - (D : Int) ≤ (seq k).T M n := by omega
    have u1 := Int.mul_le_mul_of_nonneg_right t1 DD
    have u2 := Int.mul_le_mul_of_nonneg_right t2 DD
    have big : (D : Int) * (D * D) ≤ (D : Int) * (D * D) * (seq k).d := by
      have : (0 : Int) ≤ (D : Int) * (D * D) := Int.mul_nonneg (by omega) DD
      have := Int.mul_le_mul_of_nonneg_left (show (1 : Int) ≤ (seq k).d by omega) this
      rwa [Int.mul_one] at this
    have cast : ((D * (D * D) : Nat) : Int) = (D : Int) * (D * D) := by rw [Int.natCast_mul, Int.natCast_mul]
    rw [cast]
    constructor
    · refine Int.ediv_le_of_le_mul pa ?_
      omega
    · refine Int.le_ediv_of_mul_le pa ?_
      rw [Int.neg_mul] at u2
      rw [Int.neg_mul]
      omega
  have b0 := bd 0 (by omega)
  have b1 := bd _ (show (2 * (D * (D * D)) + 1) * W ≤ K by omega)
  rw [Int.natCast_add, Int.natCast_mul] at hb
  omega
end
end Term
/-! MBd -/
/-! The board as lists, and its exchange. Core Lean only. -/
namespace Tab
open Det Term
structure Bd where
  bottom : Int
  above : List Int
  aside : List Int
  rows : List (List Int)
  base : Int
def tbOf (n M : Nat) (B : Bd) : Tb where
  d := B.bottom
  T := fun i j => (B.rows.getD i []).getD j 0
  ab := fun j => (B.above.getD j 0).toNat
  as := fun i => if i < M then (B.aside.getD i 0).toNat else n + M
/-- a row's change -/
def chg (d : Int) (row chosen : List Int) (q : Nat) (s : Int) : List Int :=
  (List.range row.length).map fun j => if j = q then - s * row.getD q 0 else s * (row.getD j 0 * chosen.getD q 0 - row.getD q 0 * chosen.getD j 0) / d
def sg (v : Int) : Int := if v > 0 then 1 else -1
def exch (B : Bd) (p q : Nat) : Bd where
  bottom := sg ((B.rows.getD p []).getD q 0) * (B.rows.getD p []).getD q 0
  above := B.above.set q (B.aside.getD p 0)
  aside := B.aside.set p (B.above.getD q 0)
  rows := (List.range B.rows.length).map fun i => if i = p then ((B.rows.getD p []).map fun e => sg ((B.rows.getD p []).getD q 0) * e).set q (sg ((B.rows.getD p []).getD q 0) * B.bottom)
    else chg B.bottom (B.rows.getD i []) (B.rows.getD p []) q (sg ((B.rows.getD p []).getD q 0))
  base := B.base
/-- its shape -/
structure Shp (n M : Nat) (B : Bd) : Prop where
  above : B.above.length = n
  aside : B.aside.length = M
  rows : B.rows.length = M + 1
  row : ∀ i, i ≤ M → (B.rows.getD i []).length = n + 1
  abP : ∀ j, j < n → 0 ≤ B.above.getD j 0
  asP : ∀ i, i < M → 0 ≤ B.aside.getD i 0
theorem getD_set {α : Type} {l : List α} {i j : Nat} {v d : α} (h : i < l.length) : (l.set i v).getD j d = if j = i then v else l.getD j d := by
  by_cases e : j = i
  · subst e; rw [if_pos rfl, List.getD_eq_getElem?_getD, List.getElem?_set_self h]; rfl
  · rw [if_neg e, List.getD_eq_getElem?_getD, List.getD_eq_getElem?_getD, List.getElem?_set_ne (Ne.symm e)]
theorem getD_rmap {α : Type} {n j : Nat} {f : Nat → α} {d : α} (h : j < n) : ((List.range n).map f).getD j d = f j := by
  rw [List.getD_eq_getElem?_getD, List.getElem?_map, List.getElem?_range h]; rfl
theorem getD_map {α β : Type} {l : List α} {f : α → β} {j : Nat} {d : β} {e : α} (h : j < l.length) : (l.map f).getD j d = f (l.getD j e) := by
  rw [List.getD_eq_getElem?_getD, List.getElem?_map, List.getD_eq_getElem?_getD, List.getElem?_eq_getElem h]; rfl
section
variable {n M p q : Nat} {B : Bd}
theorem Shp.exch (S : Shp n M B) (hp : p < M) (hq : q < n) : Shp n M (exch B p q) where
  above := by show (B.above.set _ _).length = n; rw [List.length_set]; exact S.above
  aside := by show (B.aside.set _ _).length = M; rw [List.length_set]; exact S.aside
  rows := by show ((List.range _).map _).length = _; rw [List.length_map, List.length_range]; exact S.rows
  row := fun i hi => by
    show (((List.range _).map _).getD i []).length = _
    rw [getD_rmap (by rw [S.rows]; omega)]
    split
    · rw [List.length_set, List.length_map]; exact S.row p (by omega)
    · unfold chg
      rw [List.length_map, List.length_range]; exact S.row i hi
  abP := fun j hj => by
    show 0 ≤ (B.above.set _ _).getD j 0
    rw [getD_set (by rw [S.above]; exact hq)]
    split
    · exact S.asP p hp
    · exact S.abP j hj
  asP := fun i hi => by
    show 0 ≤ (B.aside.set _ _).getD i 0
    rw [getD_set (by rw [S.aside]; exact hp)]
    split
    · exact S.abP q hq
    · exact S.asP i hi
theorem exch_piv {φ : Nat → Nat → Int} (S : Shp n M B) (G : Good n M φ (tbOf n M B)) (hp : p < M) (hq : q < n) (h0 : (B.rows.getD p []).getD q 0 ≠ 0) : Piv n M (tbOf n M B) p q (tbOf n M (exch B p q)) := by
  have hlp := S.row p (by omega)
  have hs : sg ((B.rows.getD p []).getD q 0) = 1 ∨ sg ((B.rows.getD p []).getD q 0) = -1 := by unfold sg; split <;> simp
  have hpos : 0 < sg ((B.rows.getD p []).getD q 0) * (B.rows.getD p []).getD q 0 := by
    unfold sg
    split
    · omega
    · omega
  have rowp : (tbOf n M (exch B p q)).T p = fun j => (((B.rows.getD p []).map fun e => sg ((B.rows.getD p []).getD q 0) * e).set q (sg ((B.rows.getD p []).getD q 0) * B.bottom)).getD j 0 := by
    funext j
    show (((List.range _).map _).getD p []).getD j 0 = _
    rw [getD_rmap (by rw [S.rows]; omega), if_pos rfl]
  have rowi : ∀ i, i ≤ M → i ≠ p → ∀ j, j ≤ n → (tbOf n M (exch B p q)).T i j = if j = q then - sg ((B.rows.getD p []).getD q 0) * (B.rows.getD i []).getD q 0 else sg ((B.rows.getD p []).getD q 0) * ((B.rows.getD i []).getD j 0 * (B.rows.getD p []).getD q 0 - (B.rows.getD i []).getD q 0 * (B.rows.getD p []).getD j 0) / B.bottom := fun i hi ne j hj => by
    show (((List.range _).map _).getD i []).getD j 0 = _
    rw [getD_rmap (by rw [S.rows]; omega), if_neg ne]
    unfold chg
    rw [getD_rmap (by rw [S.row i hi]; omega)]
  refine ⟨hp, hq, G.hd, ⟨sg ((B.rows.getD p []).getD q 0), hs, rfl, hpos, fun j hj ne => ?_, ?_, fun i hi ne => ?_, fun i hi ne j hj nj => ?_⟩, ?_, ?_⟩
  · rw [rowp]
    dsimp only
    rw [getD_set (by rw [List.length_map, hlp]; omega), if_neg ne, getD_map (e := 0) (by rw [hlp]; omega)]
    rfl
  · rw [rowp]
    dsimp only
    rw [getD_set (by rw [List.length_map, hlp]; omega), if_pos rfl]
    rfl
  · rw [rowi i hi ne q (by omega), if_pos rfl]; rfl
  · rw [rowi i hi ne j hj, if_neg nj]
    obtain ⟨E, hE⟩ := G.minor2 hi (Nat.le_of_lt hp) hj hq nj
    have hE : B.bottom * E = (B.rows.getD i []).getD j 0 * (B.rows.getD p []).getD q 0 - (B.rows.getD i []).getD q 0 * (B.rows.getD p []).getD j 0 := hE
    rw [← hE]
    have hd : 0 < B.bottom := G.hd
    have e1 : sg ((B.rows.getD p []).getD q 0) * (B.bottom * E) / B.bottom = sg ((B.rows.getD p []).getD q 0) * E := by
      rw [show sg ((B.rows.getD p []).getD q 0) * (B.bottom * E) = B.bottom * (sg ((B.rows.getD p []).getD q 0) * E) by
        rw [← Int.mul_assoc, Int.mul_comm _ B.bottom, Int.mul_assoc]]
      exact Int.mul_ediv_cancel_left _ (by omega)
    rw [e1]
    show B.bottom * _ = sg ((B.rows.getD p []).getD q 0) * ((B.rows.getD i []).getD j 0 * (B.rows.getD p []).getD q 0 - (B.rows.getD i []).getD q 0 * (B.rows.getD p []).getD j 0)
    rw [← hE]
    rw [← Int.mul_assoc, Int.mul_comm B.bottom, Int.mul_assoc]
  · funext j
    show ((B.above.set q _).getD j 0).toNat = _
    rw [getD_set (by rw [S.above]; exact hq)]
    show _ = if j = q then (if p < M then (B.aside.getD p 0).toNat else n + M) else (B.above.getD j 0).toNat
    rw [if_pos hp]
    split <;> rfl
  · funext i
    show (if i < M then ((B.aside.set p _).getD i 0).toNat else n + M) = if i = p then (B.above.getD q 0).toNat else (if i < M then (B.aside.getD i 0).toNat else n + M)
    rw [getD_set (by rw [S.aside]; exact hp)]
    by_cases e : i = p
    · subst e; rw [if_pos hp, if_pos rfl, if_pos rfl]
    · rw [if_neg e, if_neg e]
end
/-! ### runs -/
inductive Rch (n M : Nat) (R : Tb → Nat → Nat → Prop) (S0 : Tb) : Nat → Tb → Prop
  | start : Rch n M R S0 0 S0
  | step {k : Nat} {S S' : Tb} {p q : Nat} : Rch n M R S0 k S → R S p q → Piv n M S p q S' → Rch n M R S0 (k + 1) S'
theorem Rch.run {n M : Nat} {R : Tb → Nat → Nat → Prop} {S0 : Tb} (V : Vars n M S0) : ∀ {k : Nat} {S : Tb}, Rch n M R S0 k S → ∃ seq p q, Run n M R seq p q k ∧ seq 0 = S0 ∧ seq k = S
  | _, _, .start => ⟨fun _ => S0, fun _ => 0, fun _ => 0, ⟨V, fun k hk => by omega⟩, rfl, rfl⟩
  | _, _, .step (k := k) (S := S) (S' := S') (p := p) (q := q) r hR hP => by
    obtain ⟨seq, ps, qs, hr, h0, hk⟩ := r.run V
    refine ⟨fun i => if i ≤ k then seq i else S', fun i => if i < k then ps i else p, fun i => if i < k then qs i else q, ⟨?_, fun i hi => ?_⟩, ?_, ?_⟩
    · show Vars n M (if 0 ≤ k then seq 0 else S')
      rw [if_pos (by omega), h0]; exact V
    · by_cases e : i < k
      · rw [if_pos (by omega), if_pos e, if_pos e, if_pos (by omega)]
        exact hr.step i e
      · have e2 : i = k := by omega
        subst e2
        rw [if_pos (by omega), if_neg (by omega), if_neg (by omega), if_neg (by omega), hk]
        exact ⟨hR, hP⟩
    · show (if 0 ≤ k then seq 0 else S') = S0
      rw [if_pos (by omega)]; exact h0
    · show (if k + 1 ≤ k then _ else S') = S'
      rw [if_neg (by omega)]
end Tab
/-! MBd2 -/
/-! The first board, the ends of the runs. Core Lean only. -/
namespace Tab
open Det Term
structure Ini (n M : Nat) (S : Tb) : Prop where
  d : S.d = 1
  ab : ∀ j, j < n → S.ab j = j
  as : ∀ i, i ≤ M → S.as i = n + i
def phi (n : Nat) (S : Tb) (v c : Nat) : Int := if v < n then (if c = v then 1 else 0) else if c = n then S.T (v - n) n else - S.T (v - n) c
section
variable {n M : Nat} {S S0 : Tb}
theorem Ini.vars (I : Ini n M S) : Vars n M S where
  abI := fun j j' hj hj' e => by rw [I.ab j hj, I.ab j' hj'] at e; exact e
  asI := fun i i' hi hi' e => by rw [I.as i hi, I.as i' hi'] at e; omega
  dis := fun j i hj hi e => by rw [I.ab j hj, I.as i hi] at e; omega
  abL := fun j hj => by rw [I.ab j hj]; omega
  asL := fun i hi => by rw [I.as i (by omega)]; omega
  aim := I.as M (Nat.le_refl _)
  all := fun v hv => by
    by_cases h : v < n
    · exact .inl ⟨v, h, I.ab v h⟩
    · exact .inr ⟨v - n, by omega, by rw [I.as _ (by omega)]; omega⟩
theorem Ini.good (I : Ini n M S) : Good n M (phi n S) S where
  hd := by rw [I.d]; decide
  vec := fun c hc i hi => by
    show S.d * phi n S (S.as i) c + sm n (fun j => S.T i j * phi n S (S.ab j) c) = S.T i n * if c = n then 1 else 0
    rw [I.d, I.as i hi]
    have e1 : phi n S (n + i) c = if c = n then S.T i n else - S.T i c := by
      unfold phi
      rw [if_neg (by omega), show n + i - n = i by omega]
    rw [e1]
    have e2 : sm n (fun j => S.T i j * phi n S (S.ab j) c) = if c = n then 0 else S.T i c := by
      by_cases h : c = n
      · rw [if_pos h]
        refine sm_zero fun j hj => ?_
        rw [I.ab j hj]
        unfold phi
        rw [if_pos hj, if_neg (by omega), Int.mul_zero]
      · rw [if_neg h, sm_one (a := c) (by omega) fun j hj ne => ?_]
        · rw [I.ab c (by omega)]
          unfold phi
          rw [if_pos (by omega), if_pos rfl, Int.mul_one]
        · rw [I.ab j hj]
          unfold phi
          rw [if_pos hj, if_neg (Ne.symm ne), Int.mul_zero]
    rw [e2]
    by_cases h : c = n
    · rw [if_pos h, if_pos h, if_pos h]; omega
    · rw [if_neg h, if_neg h, if_neg h]; omega
  dt := ⟨1, .inl rfl, by
    rw [I.d, Int.mul_one]
    rw [← det_idm (n + 1)]
    refine det_congr fun r c hr hc => ?_
    unfold rowsU idm
    by_cases h : r < n
    · rw [if_pos h, I.ab r h]
      unfold phi
      rw [if_pos h]
      by_cases e : r = c
      · rw [if_pos e.symm, if_pos e]
      · rw [if_neg (Ne.symm e), if_neg e]
    · rw [if_neg h]
      have : r = n := by omega
      subst this
      by_cases e : c = r
      · rw [if_pos e, if_pos e.symm]
      · rw [if_neg e, if_neg (Ne.symm e)]⟩
theorem phi_bd {B : Nat} (hB : 1 ≤ B) (h : ∀ i l, l ≤ n → (S.T i l).natAbs ≤ B) (v c : Nat) (hc : c ≤ n) : (phi n S v c).natAbs ≤ B := by
  unfold phi
  split
  · split
    · exact hB
    · exact Nat.zero_le _
  · split
    · exact h _ _ (Nat.le_refl _)
    · rw [Int.natAbs_neg]; exact h _ _ hc
theorem no_feas {p : Nat} {x : Nat → Int} {h : Int} (V : Vars n M S) (hd : 0 < S.d) (hp : p < M) (low : S.T p n < 0) (row : ∀ j, j < n → 0 ≤ S.T p j) (hh : 0 < h) (hx : ∀ v, v < n + M → 0 ≤ x v) (X : Sol n M S x h) : False := by
  have e := X p (Nat.le_of_lt hp)
  have e1 : 0 ≤ S.d * x (S.as p) := Int.mul_nonneg (by omega) (hx _ (V.asL p hp))
  have e2 : 0 ≤ sm n fun j => S.T p j * x (S.ab j) := sm_nonneg fun j hj => Int.mul_nonneg (row j hj) (hx _ (V.abL j hj))
  have e3 : S.T p n * h < 0 := Int.mul_neg_of_neg_of_pos low hh
  omega
theorem best_le {x : Nat → Int} {h : Int} (V : Vars n M S) (row : ∀ j, j < n → 0 ≤ S.T M j) (hx : ∀ v, v < n + M → 0 ≤ x v) (X : Sol n M S x h) : S.d * x (n + M) ≤ S.T M n * h := by
  have e := X M (Nat.le_refl _)
  rw [V.aim] at e
  have e2 : 0 ≤ sm n fun j => S.T M j * x (S.ab j) := sm_nonneg fun j hj => Int.mul_nonneg (row j hj) (hx _ (V.abL j hj))
  omega
theorem has_pos {q : Nat} (V : Vars n M S) (hd : 0 < S.d) (hq : q < n) (bdd : ∀ x, (∀ v, v < n + M → 0 ≤ x v) → Sol n M S x 0 → ∀ v, v < n + M → x v = 0) : ∃ i, i < M ∧ 0 < S.T i q := by
  by_cases h : ∃ i, i < M ∧ 0 < S.T i q
  · exact h
  · exfalso
    obtain ⟨x, h1, h2, h3⟩ := V.dir hq
    have nn : ∀ v, v < n + M → 0 ≤ x v := fun v hv => by
      rcases V.all v hv with ⟨j, hj, e⟩ | ⟨i, hi, e⟩
      · rw [← e, h1 j hj]
        split <;> omega
      · rw [← e, h2 i (by omega)]
        have : ¬ 0 < S.T i q := fun z => h ⟨i, hi, z⟩
        omega
    have z := bdd x nn h3 (S.ab q) (V.abL q hq)
    rw [h1 q hq, if_pos rfl] at z
    omega
theorem base_nn (V : Vars n M S) (F : Feas n M S) : ∃ x : Nat → Int, (∀ v, v < n + M → 0 ≤ x v) ∧ (∀ j, j < n → x (S.ab j) = 0) ∧ (∀ i, i ≤ M → x (S.as i) = S.T i n) ∧ Sol n M S x S.d := by
  obtain ⟨x, h1, h2, h3⟩ := V.base
  refine ⟨x, fun v hv => ?_, h1, h2, h3⟩
  rcases V.all v hv with ⟨j, hj, e⟩ | ⟨i, hi, e⟩
  · rw [← e, h1 j hj]; exact Int.le_refl _
  · rw [← e, h2 i (by omega)]; exact F i hi
/-- what is kept from the first board on -/
structure Kept (n M : Nat) (S0 S : Tb) (φ : Nat → Nat → Int) : Prop where
  vars : Vars n M S
  good : Good n M φ S
  sol : ∀ x h, Sol n M S0 x h ↔ Sol n M S x h
theorem Kept.piv {S' : Tb} {p q : Nat} {φ : Nat → Nat → Int} (k : Kept n M S0 S φ) (P : Piv n M S p q S') : Kept n M S0 S' φ :=
  ⟨k.vars.piv P, k.good.piv P, fun x h => (k.sol x h).trans P.sol_iff⟩
theorem Rch.kept {R : Tb → Nat → Nat → Prop} {S1 : Tb} {φ : Nat → Nat → Int} (K0 : Kept n M S0 S1 φ) : ∀ {k : Nat} {S : Tb}, Rch n M R S1 k S → Kept n M S0 S φ
  | _, _, .start => K0
  | _, _, .step r _ P => (r.kept K0).piv P
theorem Rch.settle (V : Vars n M S0) {k : Nat} (r : Rch n M (StepS n M) S0 k S) : k < 2 ^ (n + M) := by
  obtain ⟨seq, p, q, hr, _, _⟩ := r.run V
  exact settle_ends hr
theorem Rch.climb (V : Vars n M S0) (F : Feas n M S0) {φ : Nat → Nat → Int} (G : Good n M φ S0) {B : Nat} (hB : 1 ≤ B) (hφ : ∀ v c, c ≤ n → (φ v c).natAbs ≤ B) {k : Nat} (r : Rch n M (StepC n M) S0 k S) : k < (2 * (bnd n B * (bnd n B * bnd n B)) + 1) * 2 ^ (n + M) ∧ Feas n M S := by
  obtain ⟨seq, p, q, hr, h0, hk⟩ := r.run V
  rw [← h0] at F G
  refine ⟨?_, ?_⟩
  · have := climb_ends hr F (D := bnd n B) (fun i hi => by
      have g := (hr.good G i hi).bound hB hφ
      exact ⟨g.1, g.2 M n (Nat.le_refl _) (Nat.le_refl _)⟩) G.hd
    exact this
  · have : ∀ i, i ≤ k → Feas n M (seq i) := fun i => by
      induction i with
      | zero => intro _; exact F
      | succ i ih => intro h; exact (hr.step i (by omega)).1.feas (hr.step i (by omega)).2 (ih (by omega))
    rw [← hk]; exact this k (Nat.le_refl _)
end
end Tab
/-! DLay -/
set_option Elab.async false
set_option linter.all false
set_option maxRecDepth 100000
/-! The data layer: what a reading does, told of data alone; the heap is hidden. -/
namespace DL
open PySem PySem.Spec PyProof.Rows L2

/-! ### data -/
inductive Dt where
  | non | bl (b : Bool) | int (i : Int) | str (x : Str) | ty (n : String)
  | tupx (ns : List Int) | tup (xs : List Dt) | lst (xs : List Dt) | ins (C : Addr) (fs : List (Str × Dt)) | ptr (a : Addr)

mutual
def Rel (K : PySem.W.Frag) (F : Hp) : Dt → V → Prop
  | .non, v => v = .non
  | .bl b, v => v = .bl b
  | .int i, v => v = .int i
  | .str x, v => v = .str x
  | .ty n, v => v = .ty n
  | .ptr a, v => v = .ref a
  | .tupx ns, v => ∃ p o, v = .ref p ∧ F p = some (.frz o (.tup (ns.map V.int))) ∧ o.dict = none
  | .tup xs, v => ∃ p vs, v = .ref p ∧ SqT K F p vs ∧ RelL K F xs vs
  | .lst xs, v => ∃ p vs, v = .ref p ∧ SqL K F p vs ∧ RelL K F xs vs
  | .ins C fs, v => ∃ p dx vs, v = .ref p ∧ F p = some (.ins C dx vs) ∧ RelF K F fs vs
def RelL (K : PySem.W.Frag) (F : Hp) : List Dt → List V → Prop
  | [], vs => vs = []
  | d :: ds, vs => ∃ v r, vs = v :: r ∧ Rel K F d v ∧ RelL K F ds r
def RelF (K : PySem.W.Frag) (F : Hp) : List (Str × Dt) → List (Str × V) → Prop
  | [], vs => vs = []
  | (x, d) :: ds, vs => ∃ v r, vs = (x, v) :: r ∧ Rel K F d v ∧ RelF K F ds r
end
section
variable {K : PySem.W.Frag} {F F' : Hp}
theorem sqt_mono {p : Addr} {xs : List V} (e : Same F F') (h : SqT K F p xs) : SqT K F' p xs := by
  rcases h with (h | ⟨o, h⟩) | h
  · exact .inl (.inl (e _ _ h))
  · exact .inl (.inr ⟨o, e _ _ h⟩)
  · exact .inr h
mutual
theorem Rel.mono (e : Same F F') : ∀ {d : Dt} {v : V}, Rel K F d v → Rel K F' d v
  | .non, _, h => h
  | .bl _, _, h => h
  | .int _, _, h => h
  | .str _, _, h => h
  | .ty _, _, h => h
  | .ptr _, _, h => h
  | .tupx _, _, h => by
    simp only [Rel] at h ⊢
    obtain ⟨p, o, h1, h2, h3⟩ := h
    exact ⟨p, o, h1, e _ _ h2, h3⟩
  | .tup _, _, h => by
    simp only [Rel] at h ⊢
    obtain ⟨p, vs, h1, h2, h3⟩ := h
    exact ⟨p, vs, h1, sqt_mono e h2, RelL.mono e h3⟩
  | .lst _, _, h => by
    simp only [Rel] at h ⊢
    obtain ⟨p, vs, h1, h2, h3⟩ := h
    exact ⟨p, vs, h1, e.seq h2, RelL.mono e h3⟩
  | .ins _ _, _, h => by
    simp only [Rel] at h ⊢
    obtain ⟨p, dx, vs, h1, h2, h3⟩ := h
    exact ⟨p, dx, vs, h1, e _ _ h2, RelF.mono e h3⟩
theorem RelL.mono (e : Same F F') : ∀ {ds : List Dt} {vs : List V}, RelL K F ds vs → RelL K F' ds vs
  | [], _, h => h
  | _ :: _, _, h => by
    simp only [RelL] at h ⊢
    obtain ⟨v, r, h1, h2, h3⟩ := h
    exact ⟨v, r, h1, Rel.mono e h2, RelL.mono e h3⟩
theorem RelF.mono (e : Same F F') : ∀ {ds : List (Str × Dt)} {vs : List (Str × V)}, RelF K F ds vs → RelF K F' ds vs
  | [], _, h => h
  | (_, _) :: _, _, h => by
    simp only [RelF] at h ⊢
    obtain ⟨v, r, h1, h2, h3⟩ := h
    exact ⟨v, r, h1, Rel.mono e h2, RelF.mono e h3⟩
end
theorem relNon : Rel K F .non .non := by simp only [Rel]
theorem relBl {c : Bool} : Rel K F (.bl c) (.bl c) := by simp only [Rel]
theorem relInt {i : Int} : Rel K F (.int i) (.int i) := by simp only [Rel]
theorem relStr {x : Str} : Rel K F (.str x) (.str x) := by simp only [Rel]
theorem relTy {n : String} : Rel K F (.ty n) (.ty n) := by simp only [Rel]
theorem relPtr {a : Addr} : Rel K F (.ptr a) (.ref a) := by simp only [Rel]
theorem relTup {ds : List Dt} {vs : List V} {p : Addr} (h : SqT K F p vs) (r : RelL K F ds vs) : Rel K F (.tup ds) (.ref p) := by
  simp only [Rel]; exact ⟨p, vs, rfl, h, r⟩
theorem relLst {ds : List Dt} {vs : List V} {p : Addr} (h : SqL K F p vs) (r : RelL K F ds vs) : Rel K F (.lst ds) (.ref p) := by
  simp only [Rel]; exact ⟨p, vs, rfl, h, r⟩
theorem relIns {C dx p : Addr} {ds : List (Str × Dt)} {vs : List (Str × V)} (h : F p = some (.ins C dx vs)) (r : RelF K F ds vs) : Rel K F (.ins C ds) (.ref p) := by
  simp only [Rel]; exact ⟨p, dx, vs, rfl, h, r⟩
theorem RelL.len : ∀ {ds : List Dt} {vs : List V}, RelL K F ds vs → vs.length = ds.length
  | [], _, h => by simp only [RelL] at h; rw [h]; rfl
  | _ :: _, _, h => by
    simp only [RelL] at h
    obtain ⟨v, r, h1, _, h3⟩ := h
    rw [h1, List.length_cons, List.length_cons, RelL.len h3]
theorem RelL.get : ∀ {ds : List Dt} {vs : List V} {i : Nat} {d : Dt}, RelL K F ds vs → ds[i]? = some d → ∃ v, vs[i]? = some v ∧ Rel K F d v
  | [], _, _, _, _, e => by simp at e
  | x :: xs, _, i, d, h, e => by
    simp only [RelL] at h
    obtain ⟨v, r, h1, h2, h3⟩ := h
    subst h1
    cases i with
    | zero =>
      have e' : x = d := by simpa using e
      subst e'
      exact ⟨v, rfl, h2⟩
    | succ i => exact RelL.get (i := i) h3 (by simpa using e)
theorem RelL.append : ∀ {ds es : List Dt} {vs us : List V}, RelL K F ds vs → RelL K F es us → RelL K F (ds ++ es) (vs ++ us)
  | [], _, _, _, h, h' => by simp only [RelL] at h; subst h; exact h'
  | x :: xs, _, _, _, h, h' => by
    simp only [RelL] at h
    obtain ⟨v, r, h1, h2, h3⟩ := h
    subst h1
    show RelL K F (x :: (xs ++ _)) (v :: (r ++ _))
    simp only [RelL]
    exact ⟨v, _, rfl, h2, RelL.append h3 h'⟩
theorem RelL.one {d : Dt} {v : V} (h : Rel K F d v) : RelL K F [d] [v] := by
  simp only [RelL]; exact ⟨v, [], rfl, h, rfl⟩
theorem RelL.nil : RelL K F [] [] := by simp only [RelL]
theorem RelL.cons {d : Dt} {v : V} {ds : List Dt} {vs : List V} (h : Rel K F d v) (t : RelL K F ds vs) : RelL K F (d :: ds) (v :: vs) := by
  simp only [RelL]; exact ⟨v, vs, rfl, h, t⟩
theorem RelL.set : ∀ {ds : List Dt} {vs : List V} {i : Nat} {d : Dt} {v : V}, RelL K F ds vs → Rel K F d v → RelL K F (ds.set i d) (vs.set i v)
  | [], _, _, _, _, h, _ => by simp only [RelL] at h; subst h; exact RelL.nil
  | x :: xs, _, i, d, v, h, h' => by
    simp only [RelL] at h
    obtain ⟨u, r, h1, h2, h3⟩ := h
    subst h1
    cases i with
    | zero => exact RelL.cons h' h3
    | succ i => exact RelL.cons h2 (RelL.set (i := i) h3 h')
theorem RelL.take : ∀ {ds : List Dt} {vs : List V} (n : Nat), RelL K F ds vs → RelL K F (ds.take n) (vs.take n)
  | [], _, n, h => by simp only [RelL] at h; subst h; rw [List.take_nil, List.take_nil]; exact RelL.nil
  | x :: xs, _, n, h => by
    simp only [RelL] at h
    obtain ⟨u, r, h1, h2, h3⟩ := h
    subst h1
    cases n with
    | zero => exact RelL.nil
    | succ n => exact RelL.cons h2 (RelL.take n h3)
theorem RelL.drop : ∀ {ds : List Dt} {vs : List V} (n : Nat), RelL K F ds vs → RelL K F (ds.drop n) (vs.drop n)
  | [], _, n, h => by simp only [RelL] at h; subst h; rw [List.drop_nil, List.drop_nil]; exact RelL.nil
  | x :: xs, _, n, h => by
    simp only [RelL] at h
    obtain ⟨u, r, h1, h2, h3⟩ := h
    subst h1
    cases n with
    | zero => exact RelL.cons h2 h3
    | succ n => exact RelL.drop n h3
theorem RelF.get : ∀ {ds : List (Str × Dt)} {vs : List (Str × V)} {f : Str} {d : Dt}, RelF K F ds vs → ds.lookup f = some d → ∃ v, vs.lookup f = some v ∧ Rel K F d v
  | [], _, _, _, _, e => by simp at e
  | (x, y) :: xs, _, f, d, h, e => by
    simp only [RelF] at h
    obtain ⟨v, r, h1, h2, h3⟩ := h
    subst h1
    rw [List.lookup_cons] at e ⊢
    cases q : f == x with
    | true =>
      rw [q] at e
      have e' : y = d := Option.some.inj e
      subst e'
      exact ⟨v, rfl, h2⟩
    | false =>
      rw [q] at e
      exact RelF.get h3 e
theorem RelF.none : ∀ {ds : List (Str × Dt)} {vs : List (Str × V)} {f : Str}, RelF K F ds vs → ds.lookup f = none → vs.lookup f = none
  | [], _, _, h, _ => by simp only [RelF] at h; subst h; rfl
  | (x, y) :: xs, _, f, h, e => by
    simp only [RelF] at h
    obtain ⟨v, r, h1, h2, h3⟩ := h
    subst h1
    rw [List.lookup_cons] at e ⊢
    cases q : f == x with
    | true => rw [q] at e; cases e
    | false => rw [q] at e; exact RelF.none h3 e
theorem RelF.len : ∀ {ds : List (Str × Dt)} {vs : List (Str × V)}, RelF K F ds vs → vs.length = ds.length
  | [], _, h => by simp only [RelF] at h; rw [h]; rfl
  | (_, _) :: _, _, h => by
    simp only [RelF] at h
    obtain ⟨v, r, h1, _, h3⟩ := h
    rw [h1, List.length_cons, List.length_cons, RelF.len h3]
end

/-! ### the state: slots and owned objects -/
inductive Ow where
  | lst (xs : List Dt) | ins (C : Addr) (fs : List (Str × Dt))
abbrev Own := Addr → Option Ow
def Own.put (o : Own) (a : Addr) (x : Ow) : Own := fun b => if b = a then some x else o b
def Own.del (o : Own) (a : Addr) : Own := fun b => if b = a then none else o b
def own0 : Own := fun _ => none
theorem Own.put_same {o : Own} {a : Addr} {x : Ow} : o.put a x a = some x := by simp [Own.put]
theorem Own.put_ne {o : Own} {a b : Addr} {x : Ow} (h : b ≠ a) : o.put a x b = o b := by simp [Own.put, h]
theorem Own.put_put {o : Own} {a : Addr} {x y : Ow} : (o.put a x).put a y = o.put a y := by
  funext b; simp only [Own.put]; split <;> rfl
structure St where
  sl : List (Option Dt)
  own : Own
def OwRel (K : PySem.W.Frag) (F H : Hp) (a : Addr) : Ow → Prop
  | .lst xs => ∃ vs, H a = some (.lst vs) ∧ RelL K F xs vs
  | .ins C fs => ∃ dx vs, H a = some (.ins C dx vs) ∧ RelF K F fs vs
theorem OwRel.mono {K : PySem.W.Frag} {F F' H : Hp} {a : Addr} (e : Same F F') : ∀ {x : Ow}, OwRel K F H a x → OwRel K F' H a x
  | .lst _, ⟨vs, h1, h2⟩ => ⟨vs, h1, h2.mono e⟩
  | .ins _ _, ⟨dx, vs, h1, h2⟩ => ⟨dx, vs, h1, h2.mono e⟩
theorem OwRel.at {K : PySem.W.Frag} {F H H' : Hp} {a : Addr} (e : H' a = H a) : ∀ {x : Ow}, OwRel K F H a x → OwRel K F H' a x
  | .lst _, ⟨vs, h1, h2⟩ => ⟨vs, e.trans h1, h2⟩
  | .ins _ _, ⟨dx, vs, h1, h2⟩ => ⟨dx, vs, e.trans h1, h2⟩
theorem OwRel.some {K : PySem.W.Frag} {F H : Hp} {a : Addr} : ∀ {x : Ow}, OwRel K F H a x → H a ≠ none
  | .lst _, ⟨vs, h1, _⟩ => by rw [h1]; exact fun z => nomatch z
  | .ins _ _, ⟨dx, vs, h1, _⟩ => by rw [h1]; exact fun z => nomatch z
/-- what the entry's heap holds but the lent objects; the frozen part at the entry -/
structure Bs where
  B : Hp
  F0 : Hp
/-- no table of code objects -/
def NoT (H : Hp) : Prop := ∀ a ps, H a ≠ some (.tbl ps)
theorem NoT.upd {H : Hp} {p : Addr} {o : HO} (n : NoT H) (h : ∀ ps, o ≠ .tbl ps) : NoT (upd H p o) := fun a ps e => by
  by_cases z : a = p
  · subst z; rw [upd_same] at e; exact h ps (Option.some.inj e)
  · rw [upd_ne z] at e; exact n a ps e
/-- the tables of code objects that the text's lambdas use -/
def Tb (K : PySem.W.Frag) : List (Addr × Str) := [(He.tabOf K (He.codeOf K (PySem.Str.ofString "ranked_at", none)), PySem.Str.ofString "ranked_at.<locals>.<lambda>")]
abbrev TbOk (K : PySem.W.Frag) (H : Hp) : Prop := LamX.Tabs (Tb K) H
theorem TbOk.write {K : PySem.W.Frag} {H : Hp} {p : Addr} {u o : HO} (t : TbOk K H) (h : H p = some u) (hu : ∀ ps, u ≠ .tbl ps) (hq : ∀ c q, u ≠ LamX.CodeO c q) : TbOk K (upd H p o) := fun x hx => by
  obtain ⟨ps, h1, h2, h3⟩ := t x hx
  refine ⟨ps, ?_, h2, fun pos cv hc => ?_⟩
  · rw [upd_ne fun z => ?_]; exact h1
    rw [z, h] at h1; exact hu ps (Option.some.inj h1)
  · obtain ⟨c, e1, e2⟩ := h3 pos cv hc
    refine ⟨c, e1, ?_⟩
    rw [upd_ne fun z => ?_]; exact e2
    subst z
    rw [h] at e2; exact hq _ _ (Option.some.inj e2)
structure Rl (K : PySem.W.Frag) (b : Bs) (F : Hp) (d : St) (σ : L2.St) (H : Hp) : Prop where
  base : Same b.B H
  sub : Same F H
  old : Same b.F0 F
  new : ∀ a o, F a = some o → b.F0 a = some o ∨ b.B a = none
  own : ∀ a x, d.own a = some x → F a = none ∧ b.B a = none ∧ OwRel K F H a x
  len : d.sl.length = σ.length
  slots : ∀ (i : Nat) (x : Dt), d.sl[i]? = some (some x) → ∃ v, σ[i]? = some (some v) ∧ Rel K F x v
  nb : NoT b.B
  nt : NoT F
  tabs : TbOk K H
section
variable {K : PySem.W.Frag} {b : Bs} {F F' : Hp} {d d' : St} {σ : L2.St} {H H' : Hp}
/-- no object that counts stands there -/
def Fre (H : Hp) (a : Addr) : Prop := H a = none ∨ ∃ ps, H a = some (.tbl ps)
theorem Fre.of {B H : Hp} {a : Addr} (n : NoT B) (s : Same B H) (f : Fre H a) : B a = none := by
  rcases f with h | ⟨ps, h⟩
  · exact s.free h
  · cases q : B a with
    | none => rfl
    | some o =>
      have e := s a o q
      rw [h] at e
      exact absurd (by rw [q, ← Option.some.inj e]) (n a ps)
theorem OwRel.notFre {K : PySem.W.Frag} {F H : Hp} {a : Addr} (f : Fre H a) : ∀ {x : Ow}, ¬ OwRel K F H a x
  | .lst _, ⟨vs, h1, h2⟩ => by
    rcases f with h | ⟨ps, h⟩ <;> (rw [h] at h1; cases h1)
  | .ins _ _, ⟨dx, vs, h1, h2⟩ => by
    rcases f with h | ⟨ps, h⟩ <;> (rw [h] at h1; cases h1)
theorem OwRel.ext {K : PySem.W.Frag} {F H H' : Hp} {a : Addr} (e : LamX.ExtN H H') : ∀ {x : Ow}, OwRel K F H a x → OwRel K F H' a x
  | .lst _, ⟨vs, h1, h2⟩ => ⟨vs, e _ _ h1 (fun _ z => nomatch z), h2⟩
  | .ins _ _, ⟨dx, vs, h1, h2⟩ => ⟨dx, vs, e _ _ h1 (fun _ z => nomatch z), h2⟩
theorem same_extN {B H H' : Hp} (n : NoT B) (s : Same B H) (e : LamX.ExtN H H') : Same B H' := fun a o h => e a o (s a o h) fun ps z => n a ps (by rw [h, z])
/-- the heap grows, the frozen part with it; tables may change -/
theorem Rl.growN (R : Rl K b F d σ H) (e : LamX.ExtN H H') (tb : TbOk K H') (ef : Same F F') (fh : Same F' H') (nt : NoT F') (nw : ∀ a o, F' a = some o → F a = some o ∨ Fre H a) : Rl K b F' d σ H' where
  base := same_extN R.nb R.base e
  sub := fh
  old := R.old.trans ef
  new := fun a o h => (nw a o h).elim (R.new a o) fun z => .inr (z.of R.nb R.base)
  own := fun a x h => by
    obtain ⟨h1, h2, h3⟩ := R.own a x h
    refine ⟨?_, h2, (h3.mono ef).ext e⟩
    cases q : F' a with
    | none => rfl
    | some o =>
      rcases nw a o q with z | z
      · rw [h1] at z; cases z
      · exact absurd h3 (OwRel.notFre z)
  len := R.len
  slots := fun i x h => by
    obtain ⟨v, h1, h2⟩ := R.slots i x h
    exact ⟨v, h1, h2.mono ef⟩
  nb := R.nb
  nt := nt
  tabs := tb
/-- the heap grows, the frozen part with it -/
theorem Rl.grow (R : Rl K b F d σ H) (e : Same H H') (ef : Same F F') (fh : Same F' H') (nt : NoT F') (nw : ∀ a o, F' a = some o → F a = some o ∨ H a = none) : Rl K b F' d σ H' :=
  R.growN (LamX.ExtN.of e) (LamX.Tabs.ext R.tabs e) ef fh nt fun a o h => (nw a o h).imp_right .inl
theorem same_upd {H : Hp} {p : Addr} {o : HO} (h : H p = none) : Same H (upd H p o) := fun a u e => by
  rw [upd_ne (ne_of_none e h)]; exact e
/-- a new object, frozen -/
theorem Rl.frz (R : Rl K b F d σ H) {p : Addr} (hp : H p = none) (o : HO) (ho : ∀ ps, o ≠ .tbl ps) : Same F (upd F p o) ∧ Rl K b (upd F p o) d σ (upd H p o) := by
  have hf : F p = none := R.sub.free hp
  refine ⟨same_upd hf, R.grow (same_upd hp) (same_upd hf) (fun a u h => ?_) (R.nt.upd ho) fun a u h => ?_⟩
  · by_cases e : a = p
    · subst e; rw [upd_same] at h ⊢; exact h
    · rw [upd_ne e] at h ⊢; exact R.sub a u h
  · by_cases e : a = p
    · subst e; exact .inr hp
    · rw [upd_ne e] at h; exact .inl h
/-- a new object, owned -/
theorem Rl.owned (R : Rl K b F d σ H) {p : Addr} (hp : H p = none) {o : HO} {x : Ow} (hx : OwRel K F (upd H p o) p x) : Rl K b F ⟨d.sl, d.own.put p x⟩ σ (upd H p o) where
  base := R.base.trans (same_upd hp)
  sub := R.sub.trans (same_upd hp)
  old := R.old
  new := R.new
  own := fun a y h => by
    by_cases e : a = p
    · subst e
      have : x = y := by simpa [Own.put] using h
      subst this
      exact ⟨R.sub.free hp, R.base.free hp, hx⟩
    · have h' : d.own a = some y := by simpa [Own.put, e] using h
      obtain ⟨h1, h2, h3⟩ := R.own a y h'
      exact ⟨h1, h2, h3.at (upd_ne e)⟩
  len := R.len
  slots := R.slots
  nb := R.nb
  nt := R.nt
  tabs := LamX.Tabs.ext R.tabs (same_upd hp)
theorem Rl.tabsW (R : Rl K b F d σ H) {p : Addr} {y : Ow} (hy : d.own p = some y) {o : HO} : TbOk K (upd H p o) := by
  have h := (R.own p y hy).2.2
  cases y with
  | lst xs =>
    obtain ⟨vs, h1, _⟩ := h
    exact R.tabs.write h1 (fun _ z => nomatch z) fun _ _ z => by cases z
  | ins C fs =>
    obtain ⟨dx, vs, h1, _⟩ := h
    exact R.tabs.write h1 (fun _ z => nomatch z) fun _ _ z => by cases z
/-- an owned object is written -/
theorem Rl.write (R : Rl K b F d σ H) {p : Addr} {y : Ow} (hy : d.own p = some y) {o : HO} {x : Ow} (hx : OwRel K F (upd H p o) p x) : Rl K b F ⟨d.sl, d.own.put p x⟩ σ (upd H p o) where
  base := fun a u h => by
    rw [upd_ne (ne_of_none h (R.own p y hy).2.1)]; exact R.base a u h
  sub := fun a u h => by
    rw [upd_ne (ne_of_none h (R.own p y hy).1)]; exact R.sub a u h
  old := R.old
  new := R.new
  own := fun a z h => by
    by_cases e : a = p
    · subst e
      have : x = z := by simpa [Own.put] using h
      subst this
      exact ⟨(R.own a y hy).1, (R.own a y hy).2.1, hx⟩
    · have h' : d.own a = some z := by simpa [Own.put, e] using h
      obtain ⟨h1, h2, h3⟩ := R.own a z h'
      exact ⟨h1, h2, h3.at (upd_ne e)⟩
  len := R.len
  slots := R.slots
  nb := R.nb
  nt := R.nt
  tabs := R.tabsW hy
/-- an owned object is frozen -/
theorem Rl.freeze (R : Rl K b F d σ H) {p : Addr} {y : Ow} (hy : d.own p = some y) {o : HO} (ho : H p = some o) : Same F (upd F p o) ∧ Rl K b (upd F p o) ⟨d.sl, d.own.del p⟩ σ H := by
  have hf := (R.own p y hy).1
  have ef := same_upd (o := o) hf
  have not : ∀ ps, o ≠ .tbl ps := fun ps z => by
    have h := (R.own p y hy).2.2
    cases y with
    | lst xs => obtain ⟨vs, h1, _⟩ := h; rw [ho, z] at h1; cases h1
    | ins C fs => obtain ⟨dx, vs, h1, _⟩ := h; rw [ho, z] at h1; cases h1
  refine ⟨ef, ⟨R.base, fun a u h => ?_, R.old.trans ef, fun a u h => ?_, fun a z h => ?_, R.len, fun i x h => ?_, R.nb, R.nt.upd not, R.tabs⟩⟩
  · by_cases e : a = p
    · subst e; rw [upd_same] at h; rw [ho]; exact h
    · rw [upd_ne e] at h; exact R.sub a u h
  · by_cases e : a = p
    · subst e; exact .inr (R.own a y hy).2.1
    · rw [upd_ne e] at h; exact R.new a u h
  · by_cases e : a = p
    · subst e; simp [Own.del] at h
    · have h' : d.own a = some z := by simpa [Own.del, e] using h
      obtain ⟨h1, h2, h3⟩ := R.own a z h'
      exact ⟨by rw [upd_ne e]; exact h1, h2, h3.mono ef⟩
  · obtain ⟨v, h1, h2⟩ := R.slots i x h
    exact ⟨v, h1, h2.mono ef⟩
/-- a slot is set -/
theorem Rl.set (R : Rl K b F d σ H) (i : Nat) {x : Dt} {v : V} (hx : Rel K F x v) : Rl K b F ⟨d.sl.set i (some x), d.own⟩ (σ.set i (some v)) H where
  base := R.base
  sub := R.sub
  old := R.old
  new := R.new
  own := R.own
  len := by rw [List.length_set, List.length_set]; exact R.len
  slots := fun j y h => by
    have h : (d.sl.set i (some x))[j]? = some (some y) := h
    by_cases e : i = j
    · subst e
      by_cases hl : i < d.sl.length
      · rw [List.getElem?_set_self hl] at h
        have : x = y := by simpa using h
        subst this
        exact ⟨v, List.getElem?_set_self (by rw [← R.len]; exact hl), hx⟩
      · rw [List.getElem?_eq_none (by simpa using hl)] at h; cases h
    · rw [List.getElem?_set_ne e] at h
      obtain ⟨u, h1, h2⟩ := R.slots j y h
      exact ⟨u, by rw [List.getElem?_set_ne e]; exact h1, h2⟩
  nb := R.nb
  nt := R.nt
  tabs := R.tabs
/-- slots forgotten -/
theorem Rl.forget (R : Rl K b F d σ H) {sl : List (Option Dt)} {σ' : L2.St} (hl : sl.length = σ'.length) (h : ∀ (i : Nat) (x : Dt), sl[i]? = some (some x) → d.sl[i]? = some (some x) ∧ σ'[i]? = σ[i]?) : Rl K b F ⟨sl, d.own⟩ σ' H :=
  ⟨R.base, R.sub, R.old, R.new, R.own, hl, fun i x e => by
    obtain ⟨h1, h2⟩ := h i x e
    obtain ⟨v, h3, h4⟩ := R.slots i x h1
    exact ⟨v, h2.trans h3, h4⟩, R.nb, R.nt, R.tabs⟩
end
end DL
/-! DRul -/
set_option Elab.async false
set_option linter.all false
set_option maxRecDepth 100000
/-! The data layer's rules. -/
namespace DL
open PySem PySem.Spec PyProof.Rows L2

/-! ### judgements -/
def DE (K : PySem.W.Frag) (b : Bs) (te : TE) (d : St) (Q : Dt → St → Prop) : Prop :=
  ∀ F σ H, Rl K b F d σ H → ∀ P : VK, (∀ v H' F' x d', Same F F' → Rl K b F' d' σ H' → Rel K F' x v → Q x d' → P v H') → te σ H P
def DT (K : PySem.W.Frag) (b : Bs) (tt : TT) (d : St) (Q : Bool → St → Prop) : Prop :=
  ∀ F σ H, Rl K b F d σ H → ∀ P : Bool → Hp → Prop, (∀ c H' F' d', Same F F' → Rl K b F' d' σ H' → Q c d' → P c H') → tt σ H P
def DA (K : PySem.W.Frag) (b : Bs) (ta : TA) (d : St) (Q : List Dt → St → Prop) : Prop :=
  ∀ F σ H, Rl K b F d σ H → ∀ P : List V → Hp → Prop, (∀ vs H' F' xs d', Same F F' → Rl K b F' d' σ H' → RelL K F' xs vs → Q xs d' → P vs H') → ta σ H P
def DR (K : PySem.W.Frag) (b : Bs) (r : R2) (x y : Dt) (d : St) (Q : Dt → St → Prop) : Prop :=
  ∀ F σ H, Rl K b F d σ H → ∀ vx vy, Rel K F x vx → Rel K F y vy → ∀ P : VK, (∀ v H' F' z d', Same F F' → Rl K b F' d' σ H' → Rel K F' z v → Q z d' → P v H') → r vx vy H P
def DU (K : PySem.W.Frag) (b : Bs) (r : V → Hp → VK → Prop) (x : Dt) (d : St) (Q : Dt → St → Prop) : Prop :=
  ∀ F σ H, Rl K b F d σ H → ∀ vx, Rel K F x vx → ∀ P : VK, (∀ v H' F' z d', Same F F' → Rl K b F' d' σ H' → Rel K F' z v → Q z d' → P v H') → r vx H P
def DC (K : PySem.W.Frag) (b : Bs) (r : List V → Hp → VK → Prop) (xs : List Dt) (d : St) (Q : Dt → St → Prop) : Prop :=
  ∀ F σ H, Rl K b F d σ H → ∀ vs, RelL K F xs vs → ∀ P : VK, (∀ v H' F' z d', Same F F' → Rl K b F' d' σ H' → Rel K F' z v → Q z d' → P v H') → r vs H P
def DG (K : PySem.W.Frag) (b : Bs) (g : TG) (x : Dt) (d : St) (Q : St → Prop) : Prop :=
  ∀ F σ H, Rl K b F d σ H → ∀ v, Rel K F x v → ∀ P : L2.St → Hp → Prop, (∀ σ' H' F' d', Same F F' → Rl K b F' d' σ' H' → Q d' → P σ' H') → g v σ H P
def DGs (K : PySem.W.Frag) (b : Bs) (g : TGs) (xs : List Dt) (d : St) (Q : St → Prop) : Prop :=
  ∀ F σ H, Rl K b F d σ H → ∀ vs, RelL K F xs vs → ∀ P : L2.St → Hp → Prop, (∀ σ' H' F' d', Same F F' → Rl K b F' d' σ' H' → Q d' → P σ' H') → g vs σ H P
def DO (K : PySem.W.Frag) (b : Bs) (to : TO) (d : St) (Q : Option Int → St → Prop) : Prop :=
  ∀ F σ H, Rl K b F d σ H → ∀ P : Option Int → Hp → Prop, (∀ o H' F' d', Same F F' → Rl K b F' d' σ H' → Q o d' → P o H') → to σ H P
structure En where
  nx : St → Prop
  rt : Dt → St → Prop
  bk : St → Prop := fun _ => False
  ct : St → Prop := fun _ => False
structure EnOk (K : PySem.W.Frag) (b : Bs) (F : Hp) (E : En) (D : Ends) : Prop where
  nx : ∀ σ' H' F' d', Same F F' → Rl K b F' d' σ' H' → E.nx d' → D.nx σ' H'
  rt : ∀ v H' F' x d' σ', Same F F' → Rl K b F' d' σ' H' → Rel K F' x v → E.rt x d' → D.rt v H'
  bk : ∀ σ' H' F' d', Same F F' → Rl K b F' d' σ' H' → E.bk d' → D.bk σ' H'
  ct : ∀ σ' H' F' d', Same F F' → Rl K b F' d' σ' H' → E.ct d' → D.ct σ' H'
theorem EnOk.mono {K : PySem.W.Frag} {b : Bs} {F F1 : Hp} {E : En} {D : Ends} (k : EnOk K b F E D) (e : Same F F1) : EnOk K b F1 E D :=
  ⟨fun σ H F' d s => k.nx σ H F' d (e.trans s), fun v H F' x d σ s => k.rt v H F' x d σ (e.trans s), fun σ H F' d s => k.bk σ H F' d (e.trans s), fun σ H F' d s => k.ct σ H F' d (e.trans s)⟩
def DX (K : PySem.W.Frag) (b : Bs) (ts : TS) (d : St) (E : En) : Prop :=
  ∀ F σ H, Rl K b F d σ H → ∀ D : Ends, EnOk K b F E D → ts D σ H

section
variable {K : PySem.W.Frag} {b : Bs} {d : St} {Q : Dt → St → Prop} {QB : Bool → St → Prop} {ta tb te tc : TE} {tt tu : TT} {x y : Dt} {i j : Int} {k : Nat}

/-! ### expressions -/
theorem de_var (h : d.sl[k]? = some (some x)) (q : Q x d) : DE K b (tVar k) d Q := fun F σ H R P kk => by
  obtain ⟨v, h1, h2⟩ := R.slots k x h
  exact ⟨v, h1, kk v H F x d (Same.refl F) R h2 q⟩
/-- an owned list's name, the list frozen from here on -/
theorem de_varF {a : Addr} {xs : List Dt} (h : d.sl[k]? = some (some (.ptr a))) (ho : d.own a = some (.lst xs)) (q : Q (.lst xs) ⟨d.sl, d.own.del a⟩) : DE K b (tVar k) d Q := fun F σ H R P kk => by
  obtain ⟨v, h1, h2⟩ := R.slots k _ h
  obtain ⟨_, _, vs, h3, h4⟩ := R.own a _ ho
  obtain ⟨e, R'⟩ := R.freeze ho h3
  have h2 : v = .ref a := h2
  subst h2
  exact ⟨_, h1, kk _ H _ _ _ e R' (relLst (.inl (.inl upd_same)) (h4.mono e)) q⟩
/-- an owned instance's name, frozen from here on -/
theorem de_varI {a C : Addr} {fs : List (Str × Dt)} (h : d.sl[k]? = some (some (.ptr a))) (ho : d.own a = some (.ins C fs)) (q : Q (.ins C fs) ⟨d.sl, d.own.del a⟩) : DE K b (tVar k) d Q := fun F σ H R P kk => by
  obtain ⟨v, h1, h2⟩ := R.slots k _ h
  obtain ⟨_, _, dx, vs, h3, h4⟩ := R.own a _ ho
  obtain ⟨e, R'⟩ := R.freeze ho h3
  have h2 : v = .ref a := h2
  subst h2
  exact ⟨_, h1, kk _ H _ _ _ e R' (relIns upd_same (h4.mono e)) q⟩
/-- what is owned and just handed out is frozen -/
theorem de_frz {te : TE} (h : DE K b te d fun x d1 => ∃ a xs, x = .ptr a ∧ d1.own a = some (.lst xs) ∧ Q (.lst xs) ⟨d1.sl, d1.own.del a⟩) : DE K b te d Q := fun F σ H R P kk =>
  h F σ H R P fun v H1 F1 x d1 s1 R1 r1 ⟨a, xs, ex, ho, q⟩ => by
    subst ex
    obtain ⟨_, _, vs, h3, h4⟩ := R1.own a _ ho
    obtain ⟨e, R'⟩ := R1.freeze ho h3
    have r1 : v = .ref a := r1
    subst r1
    exact kk _ H1 _ _ _ (s1.trans e) R' (relLst (.inl (.inl upd_same)) (h4.mono e)) q
theorem de_frzI {te : TE} (h : DE K b te d fun x d1 => ∃ a C fs, x = .ptr a ∧ d1.own a = some (.ins C fs) ∧ Q (.ins C fs) ⟨d1.sl, d1.own.del a⟩) : DE K b te d Q := fun F σ H R P kk =>
  h F σ H R P fun v H1 F1 x d1 s1 R1 r1 ⟨a, C, fs, ex, ho, q⟩ => by
    subst ex
    obtain ⟨_, _, dx, vs, h3, h4⟩ := R1.own a _ ho
    obtain ⟨e, R'⟩ := R1.freeze ho h3
    have r1 : v = .ref a := r1
    subst r1
    exact kk _ H1 _ _ _ (s1.trans e) R' (relIns upd_same (h4.mono e)) q
theorem de_rel {v : V} (h : ∀ F, Rel K F x v) (q : Q x d) : DE K b (tC v) d Q := fun F σ H R P kk => kk v H F x d (Same.refl F) R (h F) q
theorem de_int (q : Q (.int i) d) : DE K b (tC (.int i)) d Q := de_rel (fun _ => relInt) q
theorem de_bl {c : Bool} (q : Q (.bl c) d) : DE K b (tC (.bl c)) d Q := de_rel (fun _ => relBl) q
theorem de_non (q : Q .non d) : DE K b (tC .non) d Q := de_rel (fun _ => relNon) q
theorem de_str {z : Str} (q : Q (.str z) d) : DE K b (tC (.str z)) d Q := de_rel (fun _ => relStr) q
theorem de_ty {n : String} (q : Q (.ty n) d) : DE K b (tC (.ty n)) d Q := de_rel (fun _ => relTy) q
theorem de_op {r : R2} (h : DE K b ta d fun x d1 => DE K b tb d1 fun y d2 => DR K b r x y d2 Q) : DE K b (tOp r ta tb) d Q := fun F σ H R P kk =>
  h F σ H R _ fun v1 H1 F1 x d1 s1 R1 r1 q1 => q1 F1 σ H1 R1 _ fun v2 H2 F2 y d2 s2 R2 r2 q2 =>
    q2 F2 σ H2 R2 _ _ (r1.mono s2) r2 _ fun v3 H3 F3 z d3 s3 R3 r3 q3 => kk v3 H3 F3 z d3 ((s1.trans s2).trans s3) R3 r3 q3
theorem de_un {r : V → Hp → VK → Prop} (h : DE K b ta d fun x d1 => DU K b r x d1 Q) : DE K b (tUn r ta) d Q := fun F σ H R P kk =>
  h F σ H R _ fun v1 H1 F1 x d1 s1 R1 r1 q1 => q1 F1 σ H1 R1 _ r1 _ fun v3 H3 F3 z d3 s3 R3 r3 q3 => kk v3 H3 F3 z d3 (s1.trans s3) R3 r3 q3
theorem de_cb {r : List V → Hp → VK → Prop} {t : TA} (h : DA K b t d fun xs d1 => DC K b r xs d1 Q) : DE K b (tCB r t) d Q := fun F σ H R P kk =>
  h F σ H R _ fun v1 H1 F1 x d1 s1 R1 r1 q1 => q1 F1 σ H1 R1 _ r1 _ fun v3 H3 F3 z d3 s3 R3 r3 q3 => kk v3 H3 F3 z d3 (s1.trans s3) R3 r3 q3
theorem da_nil {Q : List Dt → St → Prop} (q : Q [] d) : DA K b tNil d Q := fun F σ H R P kk => kk [] H F [] d (Same.refl F) R RelL.nil q
theorem da_cons {Q : List Dt → St → Prop} {t : TA} (h : DE K b te d fun x d1 => DA K b t d1 fun xs d2 => Q (x :: xs) d2) : DA K b (tCons te t) d Q := fun F σ H R P kk =>
  h F σ H R _ fun v1 H1 F1 x d1 s1 R1 r1 q1 => q1 F1 σ H1 R1 _ fun vs H2 F2 xs d2 s2 R2 r2 q2 => kk (v1 :: vs) H2 F2 (x :: xs) d2 (s1.trans s2) R2 (.cons (r1.mono s2) r2) q2
theorem de_tup {t : TA} (h : DA K b t d fun xs d1 => xs.length ≤ 100000 ∧ Q (.tup xs) d1) : DE K b (tTup t) d Q := fun F σ H R P kk =>
  h F σ H R _ fun vs H1 F1 xs d1 s1 R1 r1 q1 => ⟨Nat.le_trans (by rw [r1.len]; exact q1.1) (by decide), fun p hp => by
    obtain ⟨e, R'⟩ := R1.frz hp (.tup vs) (fun _ z => nomatch z)
    exact kk (.ref p) _ _ (.tup xs) d1 (s1.trans e) R' (relTup (.inl (.inl upd_same)) (r1.mono e)) q1.2⟩
/-- a list display: frozen, owned -/
theorem de_lstF {t : TA} (h : DA K b t d fun xs d1 => xs.length ≤ 100000 ∧ Q (.lst xs) d1) : DE K b (tLst t) d Q := fun F σ H R P kk =>
  h F σ H R _ fun vs H1 F1 xs d1 s1 R1 r1 q1 => ⟨Nat.le_trans (by rw [r1.len]; exact q1.1) (by decide), fun p hp => by
    obtain ⟨e, R'⟩ := R1.frz hp (.lst vs) (fun _ z => nomatch z)
    exact kk (.ref p) _ _ (.lst xs) d1 (s1.trans e) R' (relLst (.inl (.inl upd_same)) (r1.mono e)) q1.2⟩
theorem own_none {F : Hp} {σ : L2.St} {H : Hp} (R : Rl K b F d σ H) {p : Addr} (hp : H p = none) : d.own p = none := by
  cases q : d.own p with
  | none => rfl
  | some x => exact absurd hp (R.own p x q).2.2.some
theorem de_lstO {t : TA} (h : DA K b t d fun xs d1 => xs.length ≤ 100000 ∧ ∀ p, d1.own p = none → Q (.ptr p) ⟨d1.sl, d1.own.put p (.lst xs)⟩) : DE K b (tLst t) d Q := fun F σ H R P kk =>
  h F σ H R _ fun vs H1 F1 xs d1 s1 R1 r1 q1 => ⟨Nat.le_trans (by rw [r1.len]; exact q1.1) (by decide), fun p hp =>
    kk (.ref p) _ F1 (.ptr p) _ s1 (R1.owned hp (x := .lst xs) ⟨vs, upd_same, r1⟩) rfl (q1.2 p (own_none R1 hp))⟩

/-! ### operators by values -/
theorem dr_I0 {f : Int → Int → Int} (q : Q (.int (f i j)) d) : DR K b (rI0 fun i j => .int (f i j)) (.int i) (.int j) d Q := fun F σ H R _ _ h1 h2 P kk =>
  ⟨i, j, h1, h2, kk _ H F _ d (Same.refl F) R relInt q⟩
theorem dr_I0b {f : Int → Int → Bool} (q : Q (.bl (f i j)) d) : DR K b (rI0 fun i j => .bl (f i j)) (.int i) (.int j) d Q := fun F σ H R _ _ h1 h2 P kk =>
  ⟨i, j, h1, h2, kk _ H F _ d (Same.refl F) R relBl q⟩
theorem dr_I {C : Int → Int → Prop} {f : Int → Int → Int} (hc : C i j) (q : Q (.int (f i j)) d) : DR K b (rI C fun i j => .int (f i j)) (.int i) (.int j) d Q := fun F σ H R _ _ h1 h2 P kk =>
  ⟨i, j, h1, h2, hc, kk _ H F _ d (Same.refl F) R relInt q⟩
theorem du_I {f : Int → Int} (q : Q (.int (f i)) d) : DU K b (rU fun i => .int (f i)) (.int i) d Q := fun F σ H R _ h1 P kk => ⟨i, h1, kk _ H F _ d (Same.refl F) R relInt q⟩
theorem dr_eqI (q : Q (.bl (decide (i = j))) d) : DR K b rEq (.int i) (.int j) d Q := fun F σ H R vx vy h1 h2 P kk => by
  have h1 : vx = .int i := h1
  have h2 : vy = .int j := h2
  subst h1; subst h2
  refine ⟨rfl, kk _ H F (.bl (decide (i = j))) d (Same.refl F) R ?_ q⟩
  show V.bl _ = V.bl _
  congr 1
  exact decide_eq_decide.mpr ⟨V.int.inj, congrArg V.int⟩
theorem dr_neI (q : Q (.bl (!decide (i = j))) d) : DR K b rNe (.int i) (.int j) d Q := fun F σ H R vx vy h1 h2 P kk => by
  have h1 : vx = .int i := h1
  have h2 : vy = .int j := h2
  subst h1; subst h2
  refine ⟨rfl, kk _ H F (.bl (!decide (i = j))) d (Same.refl F) R ?_ q⟩
  show V.bl _ = V.bl _
  congr 2
  exact decide_eq_decide.mpr ⟨V.int.inj, congrArg V.int⟩
theorem dr_eqS {z u : Str} (q : Q (.bl (decide (z = u))) d) : DR K b rEq (.str z) (.str u) d Q := fun F σ H R vx vy h1 h2 P kk => by
  have h1 : vx = .str z := h1
  have h2 : vy = .str u := h2
  subst h1; subst h2
  refine ⟨rfl, kk _ H F (.bl (decide (z = u))) d (Same.refl F) R ?_ q⟩
  show V.bl _ = V.bl _
  congr 1
  exact decide_eq_decide.mpr ⟨V.str.inj, congrArg V.str⟩
theorem atI_rel {F : Hp} {xs : List Dt} {vs : List V} {i : Int} {x : Dt} (h : RelL K F xs vs) (e : atI xs i = some x) : ∃ v, atI vs i = some v ∧ Rel K F x v := by
  unfold atI at e ⊢
  rw [h.len]
  cases q : ixN xs.length i with
  | none => rw [q] at e; cases e
  | some j =>
    rw [q] at e
    obtain ⟨v, h1, h2⟩ := h.get (i := j) e
    exact ⟨v, h1, h2⟩
theorem dr_ixT {xs : List Dt} (e : atI xs i = some y) (q : Q y d) : DR K b (rIxT K) (.tup xs) (.int i) d Q := fun F σ H R vx vy h1 h2 P kk => by
  obtain ⟨p, vs, h3, h4, h5⟩ := h1
  obtain ⟨v, h6, h7⟩ := atI_rel h5 e
  exact ⟨p, vs, i, v, h3, h2, sqt_mono R.sub h4, h6, kk v H F y d (Same.refl F) R h7 q⟩
theorem dr_ixL {xs : List Dt} (e : atI xs i = some y) (q : Q y d) : DR K b (rIxL K) (.lst xs) (.int i) d Q := fun F σ H R vx vy h1 h2 P kk => by
  obtain ⟨p, vs, h3, h4, h5⟩ := h1
  obtain ⟨v, h6, h7⟩ := atI_rel h5 e
  exact ⟨p, vs, i, v, h3, h2, R.sub.seq h4, h6, kk v H F y d (Same.refl F) R h7 q⟩
theorem dr_ixO {a : Addr} {xs : List Dt} (ho : d.own a = some (.lst xs)) (e : atI xs i = some y) (q : Q y d) : DR K b (rIxL K) (.ptr a) (.int i) d Q := fun F σ H R vx vy h1 h2 P kk => by
  obtain ⟨_, _, vs, h3, h4⟩ := R.own a _ ho
  obtain ⟨v, h6, h7⟩ := atI_rel h4 e
  exact ⟨a, vs, i, v, h1, h2, SqL.of h3, h6, kk v H F y d (Same.refl F) R h7 q⟩
theorem dr_xT {xs : List Dt} (e : atI xs i = some y) (q : Q y d) : DR K b (rIx K) (.tup xs) (.int i) d Q := fun F σ H R vx vy h1 h2 P kk => .inr (.inl (dr_ixT e q F σ H R vx vy h1 h2 P kk))
theorem dr_xL {xs : List Dt} (e : atI xs i = some y) (q : Q y d) : DR K b (rIx K) (.lst xs) (.int i) d Q := fun F σ H R vx vy h1 h2 P kk => .inl (dr_ixL e q F σ H R vx vy h1 h2 P kk)
theorem dr_xO {a : Addr} {xs : List Dt} (ho : d.own a = some (.lst xs)) (e : atI xs i = some y) (q : Q y d) : DR K b (rIx K) (.ptr a) (.int i) d Q := fun F σ H R vx vy h1 h2 P kk => .inl (dr_ixO ho e q F σ H R vx vy h1 h2 P kk)
theorem dr_isN (q : Q (.bl (match x with | .non => true | _ => false)) d) : DR K b (fun x y H Q => y = .non ∧ Q (.bl (decide (x = .non))) H) x .non d Q := fun F σ H R vx vy h1 h2 P kk => by
  refine ⟨h2, kk _ H F _ d (Same.refl F) R ?_ q⟩
  cases x <;> simp only [Rel] at h1 ⊢
  all_goals first
    | (subst h1; rfl)
    | (obtain ⟨p, vs, h1, _⟩ := h1; subst h1; rfl)
    | (obtain ⟨p, dx, vs, h1, _⟩ := h1; subst h1; rfl)
theorem dr_notN (q : Q (.bl (match x with | .non => false | _ => true)) d) : DR K b (fun x y H Q => y = .non ∧ Q (.bl (!decide (x = .non))) H) x .non d Q := fun F σ H R vx vy h1 h2 P kk => by
  refine ⟨h2, kk _ H F _ d (Same.refl F) R ?_ q⟩
  cases x <;> simp only [Rel] at h1 ⊢
  all_goals first
    | (subst h1; rfl)
    | (obtain ⟨p, vs, h1, _⟩ := h1; subst h1; rfl)
    | (obtain ⟨p, dx, vs, h1, _⟩ := h1; subst h1; rfl)

/-! ### tests -/
theorem dt_test (h : DE K b te d fun x d1 => ∃ c, x = .bl c ∧ QB c d1) : DT K b (tTest te) d QB := fun F σ H R P kk =>
  h F σ H R _ fun v H1 F1 x d1 s1 R1 r1 ⟨c, e, q⟩ => by subst e; exact ⟨c, r1, kk c H1 F1 d1 s1 R1 q⟩
theorem dt_B (h : DE K b te d fun x d1 => ∃ c, x = .bl c ∧ QB c d1) : DT K b (tB te) d QB := fun F σ H R P kk =>
  h F σ H R _ fun v H1 F1 x d1 s1 R1 r1 ⟨c, e, q⟩ => by subst e; exact ⟨c, r1, kk c H1 F1 d1 s1 R1 q⟩
theorem dt_and (h : DT K b tt d fun c d1 => if c = true then DT K b tu d1 QB else QB false d1) : DT K b (tAnd tt tu) d QB := fun F σ H R P kk =>
  h F σ H R _ fun c H1 F1 d1 s1 R1 q => by
    cases c with
    | true => exact (show DT K b tu d1 QB from q) F1 σ H1 R1 P fun c' H2 F2 d2 s2 => kk c' H2 F2 d2 (s1.trans s2)
    | false => exact kk false H1 F1 d1 s1 R1 q
theorem dt_or (h : DT K b tt d fun c d1 => if c = true then QB true d1 else DT K b tu d1 QB) : DT K b (tOr tt tu) d QB := fun F σ H R P kk =>
  h F σ H R _ fun c H1 F1 d1 s1 R1 q => by
    cases c with
    | false => exact (show DT K b tu d1 QB from q) F1 σ H1 R1 P fun c' H2 F2 d2 s2 => kk c' H2 F2 d2 (s1.trans s2)
    | true => exact kk true H1 F1 d1 s1 R1 q
theorem dt_not (h : DT K b tt d fun c d1 => QB (!c) d1) : DT K b (tNot tt) d QB := fun F σ H R P kk =>
  h F σ H R _ fun c H1 F1 d1 s1 R1 q => kk (!c) H1 F1 d1 s1 R1 q
theorem de_andV (h : DE K b ta d fun x d1 => ∃ c, x = .bl c ∧ if c = true then DE K b tb d1 Q else Q (.bl false) d1) : DE K b (tAndV ta tb) d Q := fun F σ H R P kk =>
  h F σ H R _ fun v H1 F1 x d1 s1 R1 r1 ⟨c, e, q⟩ => by
    subst e
    refine ⟨c, r1, ?_⟩
    cases c with
    | true => exact (show DE K b tb d1 Q from q) F1 σ H1 R1 P fun v' H2 F2 y d2 s2 => kk v' H2 F2 y d2 (s1.trans s2)
    | false => exact kk (.bl false) H1 F1 (.bl false) d1 s1 R1 rfl q
theorem de_orV (h : DE K b ta d fun x d1 => ∃ c, x = .bl c ∧ if c = true then Q (.bl true) d1 else DE K b tb d1 Q) : DE K b (tOrV ta tb) d Q := fun F σ H R P kk =>
  h F σ H R _ fun v H1 F1 x d1 s1 R1 r1 ⟨c, e, q⟩ => by
    subst e
    refine ⟨c, r1, ?_⟩
    cases c with
    | false => exact (show DE K b tb d1 Q from q) F1 σ H1 R1 P fun v' H2 F2 y d2 s2 => kk v' H2 F2 y d2 (s1.trans s2)
    | true => exact kk (.bl true) H1 F1 (.bl true) d1 s1 R1 rfl q
theorem de_notV (h : DE K b ta d fun x d1 => ∃ c, x = .bl c ∧ Q (.bl (!c)) d1) : DE K b (tNotV ta) d Q := fun F σ H R P kk =>
  h F σ H R _ fun v H1 F1 x d1 s1 R1 r1 ⟨c, e, q⟩ => by subst e; exact ⟨c, r1, kk _ H1 F1 (.bl (!c)) d1 s1 R1 rfl q⟩
theorem de_if (h : DT K b tt d fun c d1 => if c = true then DE K b ta d1 Q else DE K b tb d1 Q) : DE K b (tIf tt ta tb) d Q := fun F σ H R P kk =>
  h F σ H R _ fun c H1 F1 d1 s1 R1 q => by
    cases c with
    | true => exact (show DE K b ta d1 Q from q) F1 σ H1 R1 P fun v' H2 F2 y d2 s2 => kk v' H2 F2 y d2 (s1.trans s2)
    | false => exact (show DE K b tb d1 Q from q) F1 σ H1 R1 P fun v' H2 F2 y d2 s2 => kk v' H2 F2 y d2 (s1.trans s2)

/-! ### statements -/
variable {E : En} {t u : TS} {g : TG}
theorem dx_next (q : E.nx d) : DX K b tNext d E := fun F σ H R D k => k.nx σ H F d (Same.refl F) R q
theorem dx_cont (q : E.ct d) : DX K b tCont d E := fun F σ H R D k => k.ct σ H F d (Same.refl F) R q
theorem dx_seq (h : DX K b t d { E with nx := fun d1 => DX K b u d1 E }) : DX K b (tSeq t u) d E := fun F σ H R D k =>
  h F σ H R _ ⟨fun σ' H' F' d' s R' q => q F' σ' H' R' D (k.mono s), k.rt, k.bk, k.ct⟩
theorem dx_asg (h : DE K b te d fun x d1 => DG K b g x d1 E.nx) : DX K b (tAsg te g) d E := fun F σ H R D k =>
  h F σ H R _ fun v H1 F1 x d1 s1 R1 r1 q => q F1 σ H1 R1 v r1 _ fun σ' H' F' d' s => k.nx σ' H' F' d' (s1.trans s)
theorem dg_name {QS : St → Prop} (q : QS ⟨d.sl.set k (some x), d.own⟩) : DG K b (gName k) x d QS := fun F σ H R v r P kk => kk _ H F _ (Same.refl F) (R.set k r) q
theorem dgs_nil {QS : St → Prop} (q : QS d) : DGs K b gNil [] d QS := fun F σ H R vs r P kk => by
  have r : vs = [] := r
  exact ⟨r, kk σ H F d (Same.refl F) R q⟩
theorem dgs_cons {QS : St → Prop} {gs : TGs} {xs : List Dt} (h : DG K b g x d fun d1 => DGs K b gs xs d1 QS) : DGs K b (gCons g gs) (x :: xs) d QS := fun F σ H R vs r P kk => by
  obtain ⟨v, r', e, h1, h2⟩ := r
  exact ⟨v, r', e, h F σ H R v h1 _ fun σ' H' F' d' s R' q => q F' σ' H' R' r' (h2.mono s) P fun σ2 H2 F2 d2 s2 => kk σ2 H2 F2 d2 (s.trans s2)⟩
theorem dg_tup {QS : St → Prop} {gs : TGs} {xs : List Dt} {n : Nat} (hn : xs.length = n) (h : DGs K b gs xs d QS) : DG K b (gTup K n gs) (.tup xs) d QS := fun F σ H R v r P kk => by
  obtain ⟨p, vs, e, h1, h2⟩ := r
  exact ⟨p, vs, e, sqt_mono R.sub h1, h2.len.trans hn, h F σ H R vs h2 P kk⟩
theorem dx_par {i j : Nat} {t : TA} (h : DA K b t d fun xs d1 => ∃ x y, xs = [x, y] ∧ E.nx ⟨(d1.sl.set i (some x)).set j (some y), d1.own⟩) : DX K b (tPar i j t) d E := fun F σ H R D k =>
  h F σ H R _ fun vs H1 F1 xs d1 s1 R1 r1 ⟨x, y, e, q⟩ => by
    subst e
    obtain ⟨v, r, e1, h1, h2⟩ := r1
    obtain ⟨v', r', e2, h3, h4⟩ := h2
    have h4 : r' = [] := h4
    subst h4; subst e2; subst e1
    exact ⟨v, v', rfl, k.nx _ H1 F1 _ s1 ((R1.set i h1).set j h3) q⟩
theorem dx_par3 {i j l : Nat} {t : TA} (h : DA K b t d fun xs d1 => ∃ x y z, xs = [x, y, z] ∧ E.nx ⟨((d1.sl.set i (some x)).set j (some y)).set l (some z), d1.own⟩) : DX K b (tPar3 i j l t) d E := fun F σ H R D k =>
  h F σ H R _ fun vs H1 F1 xs d1 s1 R1 r1 ⟨x, y, z, e, q⟩ => by
    subst e
    obtain ⟨v, r, e1, h1, h2⟩ := r1
    obtain ⟨v', r', e2, h3, h4⟩ := h2
    obtain ⟨v'', r'', e3, h5, h6⟩ := h4
    have h6 : r'' = [] := h6
    subst h6; subst e3; subst e2; subst e1
    exact ⟨v, v', v'', rfl, k.nx _ H1 F1 _ s1 (((R1.set i h1).set j h3).set l h5) q⟩
theorem dx_drop (h : DE K b te d fun _ d1 => E.nx d1) : DX K b (tDrop te) d E := fun F σ H R D k =>
  h F σ H R _ fun v H1 F1 x d1 s1 R1 r1 q => k.nx σ H1 F1 d1 s1 R1 q
theorem dx_ret (h : DE K b te d E.rt) : DX K b (tRet te) d E := fun F σ H R D k =>
  h F σ H R _ fun v H1 F1 x d1 s1 R1 r1 q => k.rt v H1 F1 x d1 σ s1 R1 r1 q
theorem dx_retN (q : E.rt .non d) : DX K b tRetN d E := fun F σ H R D k => k.rt .non H F .non d σ (Same.refl F) R rfl q
theorem dx_if (h : DT K b tt d fun c d1 => if c = true then DX K b t d1 E else DX K b u d1 E) : DX K b (tIfS tt t u) d E := fun F σ H R D k =>
  h F σ H R _ fun c H1 F1 d1 s1 R1 q => by
    cases c with
    | true => exact (show DX K b t d1 E from q) F1 σ H1 R1 D (k.mono s1)
    | false => exact (show DX K b u d1 E from q) F1 σ H1 R1 D (k.mono s1)
theorem dx_aug {k : Nat} {f : Int → Int → Int} {i : Int} (h : d.sl[k]? = some (some (.int i))) (he : DE K b te d fun y d1 => ∃ j, y = .int j ∧ E.nx ⟨d1.sl.set k (some (.int (f i j))), d1.own⟩) : DX K b (tAug k te (ipI f)) d E := fun F σ H R D kk => by
  obtain ⟨v, h1, h2⟩ := R.slots k _ h
  exact ⟨v, h1, he F σ H R _ fun u H1 F1 y d1 s1 R1 r1 ⟨j, e, q⟩ => by
    subst e
    exact ⟨i, j, h2, r1, kk.nx _ H1 F1 _ s1 (R1.set k (show Rel K F1 (.int (f i j)) (.int (f i j)) from rfl)) q⟩⟩

/-! ### what is walked -/
structure DW (K : PySem.W.Frag) (J : It) (items : List Dt) (F1 : Hp) (G : St → Prop) : Prop where
  goes : ∀ {b : Bs} (i : Nat) (F : Hp) (d : St) (σ : L2.St) (H : Hp), i < items.length → Same F1 F → Rl K b F d σ H → G d → J.go i H
  stops : ∀ {b : Bs} (F : Hp) (d : St) (σ : L2.St) (H : Hp), Same F1 F → Rl K b F d σ H → G d → J.stop items.length H
  yields : ∀ {b : Bs} (i : Nat) (F : Hp) (d : St) (σ : L2.St) (H : Hp) (v : V) (H' : Hp), i < items.length → Same F1 F → Rl K b F d σ H → G d → J.yld i H v H' → ∃ F' x, items[i]? = some x ∧ Same F F' ∧ Rl K b F' d σ H' ∧ Rel K F' x v
def DI (K : PySem.W.Frag) (b : Bs) (wi : TI) (d : St) (R : List Dt → (St → Prop) → St → Prop) : Prop :=
  ∀ F σ H, Rl K b F d σ H → ∀ P : It → Hp → Prop, (∀ J H' F' d' items G, Same F F' → Rl K b F' d' σ H' → DW K J items F' G → R items G d' → P J H') → wi σ H P
theorem dx_for {wi : TI} {tb : TS} (h : DI K b wi d fun items G d1 => ∃ Iv : Nat → St → Prop, Iv 0 d1 ∧ (∀ i d, i ≤ items.length → Iv i d → G d) ∧
    (∀ i x d, items[i]? = some x → Iv i d → DG K b g x d fun d2 => DX K b tb d2 { E with nx := Iv (i + 1), ct := Iv (i + 1), bk := E.nx }) ∧ (∀ d, Iv items.length d → E.nx d)) : DX K b (tFor wi g tb) d E := fun F σ H R D k =>
  h F σ H R _ fun J H1 F1 d1 items G s1 R1 w ⟨Iv, i0, iG, turn, done⟩ => by
    refine ⟨fun i m σ H => m = items.length - i ∧ i ≤ items.length ∧ ∃ F2 d2, Same F1 F2 ∧ Rl K b F2 d2 σ H ∧ Iv i d2, ⟨items.length, by simp, Nat.zero_le _, F1, d1, Same.refl F1, R1, i0⟩, ?_⟩
    rintro i m σ2 H2 ⟨rfl, hi, F2, d2, s2, R2, iv⟩
    by_cases hlt : i < items.length
    · refine .inr ⟨w.goes i F2 d2 σ2 H2 hlt s2 R2 (iG i d2 hi iv), fun σ' H' => ∃ F3 d3, Same F1 F3 ∧ Rl K b F3 d3 σ' H' ∧ Iv (i + 1) d3, fun σ' H' ⟨F3, d3, s3, R3, iv3⟩ => ⟨_, by omega, rfl, hlt, F3, d3, s3, R3, iv3⟩, fun v H3 hy => ?_⟩
      obtain ⟨F3, x, ex, s3, R3, r3⟩ := w.yields i F2 d2 σ2 H2 v H3 hlt s2 R2 (iG i d2 hi iv) hy
      refine turn i x d2 ex iv F3 σ2 H3 R3 v r3 _ fun σ4 H4 F4 d4 s4 R4 q4 => q4 F4 σ4 H4 R4 _ ?_
      have all := ((s2.trans s3).trans s4)
      refine ⟨fun σ' H' F' d' s R' q => ⟨F', d', all.trans s, R', q⟩, (k.mono (s1.trans all)).rt, (k.mono (s1.trans all)).nx, fun σ' H' F' d' s R' q => ⟨F', d', all.trans s, R', q⟩⟩
    · have e : i = items.length := by omega
      subst e
      exact .inl ⟨w.stops F2 d2 σ2 H2 s2 R2 (iG _ d2 (Nat.le_refl _) iv), k.nx σ2 H2 F2 d2 (s1.trans s2) R2 (done d2 iv)⟩
theorem dx_while {tb : TS} (Iv : Nat → St → Prop) (m0 : Nat) (h0 : Iv m0 d) (hs : ∀ m d, Iv m d → DT K b tt d fun c d1 => if c = true then DX K b tb d1 { E with nx := fun d2 => ∃ m', m' < m ∧ Iv m' d2, ct := fun d2 => ∃ m', m' < m ∧ Iv m' d2, bk := E.nx } else E.nx d1) : DX K b (tWhile tt tb) d E := fun F σ H R D k => by
  refine ⟨fun m σ H => ∃ F2 d2, Same F F2 ∧ Rl K b F2 d2 σ H ∧ Iv m d2, ⟨m0, F, d, Same.refl F, R, h0⟩, ?_⟩
  rintro m σ2 H2 ⟨F2, d2, s2, R2, iv⟩
  refine hs m d2 iv F2 σ2 H2 R2 _ fun c H3 F3 d3 s3 R3 q => ?_
  cases c with
  | true =>
    rw [if_pos rfl]
    refine ⟨fun σ' H' => ∃ m', m' < m ∧ ∃ F4 d4, Same F F4 ∧ Rl K b F4 d4 σ' H' ∧ Iv m' d4, fun σ' H' h => h, (show DX K b tb d3 _ from q) F3 σ2 H3 R3 _ ?_⟩
    have all := s2.trans s3
    exact ⟨fun σ' H' F' d' s R' ⟨m', hm, iv'⟩ => ⟨m', hm, F', d', all.trans s, R', iv'⟩, (k.mono all).rt, (k.mono all).nx, fun σ' H' F' d' s R' ⟨m', hm, iv'⟩ => ⟨m', hm, F', d', all.trans s, R', iv'⟩⟩
  | false =>
    rw [if_neg Bool.false_ne_true]
    exact k.nx σ2 H3 F3 d3 (s2.trans s3) R3 q
/-- a comprehension: acc, what is made so far; the new list frozen -/
def wipeD (sl : List (Option Dt)) : List Nat → List (Option Dt)
  | [] => sl
  | v :: vs => (wipeD sl vs).set v none
theorem wipe_get {sl : List (Option Dt)} {σ : L2.St} : ∀ {vs : List Nat} {i : Nat} {x : Dt}, (wipeD sl vs)[i]? = some (some x) → sl[i]? = some (some x) ∧ (wipe σ vs)[i]? = σ[i]?
  | [], _, _, h => ⟨h, rfl⟩
  | v :: vs, i, x, h => by
    unfold wipeD at h
    unfold wipe
    by_cases e : v = i
    · subst e
      by_cases hl : v < (wipeD sl vs).length
      · rw [List.getElem?_set_self hl] at h; cases h
      · rw [List.getElem?_eq_none (by simpa using hl)] at h; cases h
    · rw [List.getElem?_set_ne e] at h
      rw [List.getElem?_set_ne e]
      exact wipe_get h
theorem wipeD_len (sl : List (Option Dt)) : ∀ vs, (wipeD sl vs).length = sl.length
  | [] => rfl
  | v :: vs => by unfold wipeD; rw [List.length_set, wipeD_len sl vs]
theorem wipe_len' (σ : L2.St) : ∀ vs, (wipe σ vs).length = σ.length := wipe_length σ
end
end DL
/-! DRul2 -/
set_option Elab.async false
set_option linter.all false
set_option maxRecDepth 100000
/-! The data layer: calls, fields, comprehensions, what is walked, built-ins. -/
namespace DL
open PySem PySem.Spec PyProof.Rows L2

/-! ### a def's promise, told of data -/
abbrev Pr := List Dt → Own → (Dt → Own → Prop) → Prop
def spD (K : PySem.W.Frag) (pr : Pr) : Sp := fun vs H Q _ => ∃ (F : Hp) (ds : List Dt) (ob : Own) (QD : Dt → Own → Prop), Same F H ∧ RelL K F ds vs ∧ (∀ a x, ob a = some x → F a = none ∧ OwRel K F H a x) ∧ (NoT F ∧ TbOk K H) ∧ pr ds ob QD ∧
  ∀ v H' F' r ob', Same F F' → Same F' H' → NoT F' → TbOk K H' → (∀ a o, F' a = some o → F a = some o ∨ Fre H a ∨ ob a ≠ none) → (∀ a o, ob a = none → H a = some o → (∀ ps, o ≠ .tbl ps) → H' a = some o) →
    (∀ a x, ob' a = some x → F' a = none ∧ (ob a ≠ none ∨ Fre H a) ∧ OwRel K F' H' a x) → Rel K F' r v → QD r ob' → Q v H'
abbrev PrP := List Dt → (Dt → Prop) → Prop
def pure1 (pr : PrP) : Pr := fun ds ob QD => ob = own0 ∧ pr ds fun r => QD r own0
abbrev spP (K : PySem.W.Frag) (pr : PrP) : Sp := spD K (pure1 pr)
theorem spD_len {K : PySem.W.Frag} {pr : Pr} {vs : List V} {H : Hp} {Q : VK} {E : XK} {n : Nat} (h : spD K pr vs H Q E) (hp : ∀ ds ob QD, pr ds ob QD → ds.length = n) : vs.length = n := by
  obtain ⟨F, ds, ob, QD, _, h2, _, _, h4, _⟩ := h
  rw [h2.len]; exact hp ds ob QD h4
theorem spP_len {K : PySem.W.Frag} {pr : PrP} {vs : List V} {H : Hp} {Q : VK} {E : XK} {n : Nat} (h : spP K pr vs H Q E) (hp : ∀ ds QD, pr ds QD → ds.length = n) : vs.length = n :=
  spD_len h fun ds _ _ z => hp ds _ z.2
def startD : List Str → List Dt → List (Option Dt)
  | [], ds => ds.map some
  | _ :: N, [] => none :: startD N []
  | _ :: N, d :: ds => some d :: startD N ds
theorem startD_eq : ∀ (N : List Str) (ds : List Dt), startD N ds = ds.map some ++ List.replicate (N.length - ds.length) none
  | [], ds => by simp [startD]
  | _ :: N, [] => by
    rw [startD, startD_eq N []]; simp [List.replicate_succ]
  | _ :: N, d :: ds => by
    rw [startD, startD_eq N ds]; simp
/-- what the end of a body asks -/
def endD (QD : Dt → Own → Prop) : Dt → St → Prop := fun r d => ∃ ob', (∀ a x, ob' a = some x → d.own a = some x) ∧ QD r ob'
theorem endD_all {QD : Dt → Own → Prop} {r : Dt} {d : St} (h : QD r d.own) : endD QD r d := ⟨d.own, fun _ _ e => e, h⟩
theorem relL_map {K : PySem.W.Frag} {F : Hp} : ∀ {ds : List Dt} {vs : List V}, RelL K F ds vs → ∀ (i : Nat) (x : Dt), (ds.map some)[i]? = some (some x) → ∃ v, (vs.map some)[i]? = some (some v) ∧ Rel K F x v := fun {ds vs} h i x e => by
  rw [List.getElem?_map] at e
  cases q : ds[i]? with
  | none => rw [q] at e; cases e
  | some y =>
    rw [q] at e
    have e' : y = x := by simpa using e
    subst e'
    obtain ⟨v, h1, h2⟩ := h.get q
    exact ⟨v, by rw [List.getElem?_map, h1]; rfl, h2⟩
theorem start_rel {K : PySem.W.Frag} {F : Hp} {N : List Str} {ds : List Dt} {vs : List V} (h : RelL K F ds vs) : (startD N ds).length = (L2.start N vs).length ∧ ∀ (i : Nat) (x : Dt), (startD N ds)[i]? = some (some x) → ∃ v, (L2.start N vs)[i]? = some (some v) ∧ Rel K F x v := by
  have hl := h.len
  refine ⟨by rw [startD_eq]; unfold L2.start; simp [hl], fun i x e => ?_⟩
  rw [startD_eq] at e
  unfold L2.start
  by_cases hi : i < ds.length
  · rw [List.getElem?_append_left (by simpa using hi)] at e
    rw [List.getElem?_append_left (by simpa [hl] using hi)]
    exact relL_map h i x e
  · rw [List.getElem?_append_right (by simpa using hi), List.getElem?_replicate] at e
    split at e <;> cases e
theorem run_body {K : PySem.W.Frag} {pr : Pr} {vs : List V} {H : Hp} {Q : VK} {E : XK} {t : TS} {N : List Str} (h : spD K pr vs H Q E)
    (hx : ∀ b : Bs, ∀ ds ob QD, pr ds ob QD → DX K b t ⟨startD N ds, ob⟩ { nx := endD QD .non, rt := endD QD }) : t { nx := fun _ H' => Q .non H', rt := Q } (L2.start N vs) H := by
  obtain ⟨F, ds, ob, QD, h1, h2, h3, ⟨hnt, htb⟩, h4, h5⟩ := h
  let B : Hp := fun a => match ob a, H a with | some _, _ => none | none, some (.tbl _) => none | none, x => x
  have b1 : ∀ a o, B a = some o → ob a = none ∧ H a = some o ∧ ∀ ps, o ≠ .tbl ps := fun a o e => by
    have e : (match ob a, H a with | some _, _ => none | none, some (.tbl _) => none | none, x => x) = some o := e
    cases q : ob a with
    | some x => rw [q] at e; cases e
    | none =>
      rw [q] at e
      cases z : H a with
      | none => rw [z] at e; cases e
      | some u =>
        rw [z] at e
        cases u <;> first
          | (cases e; done)
          | exact ⟨rfl, e, fun ps y => by rw [y] at e; cases e⟩
  have b2 : ∀ a o, ob a = none → H a = some o → (∀ ps, o ≠ .tbl ps) → B a = some o := fun a o e1 e2 n => by
    show (match ob a, H a with | some _, _ => none | none, some (.tbl _) => none | none, x => x) = some o
    rw [e1, e2]
    cases o <;> first
      | rfl
      | exact absurd rfl (n _)
  have b3 : ∀ a x, ob a = some x → B a = none := fun a x e => by
    show (match ob a, H a with | some _, _ => none | none, some (.tbl _) => none | none, x => x) = none
    rw [e]
  have R : Rl K ⟨B, F⟩ F ⟨startD N ds, ob⟩ (L2.start N vs) H := by
    refine ⟨fun a o e => (b1 a o e).2.1, h1, Same.refl F, fun a o e => .inl e, fun a x e => ⟨(h3 a x e).1, b3 a x e, (h3 a x e).2⟩, (start_rel h2).1, (start_rel h2).2, fun a ps e => (b1 a _ e).2.2 ps rfl, hnt, htb⟩
  have fin : ∀ v H' F' x d' σ', Same F F' → Rl K ⟨B, F⟩ F' d' σ' H' → Rel K F' x v → endD QD x d' → Q v H' := by
    intro v H' F' x d' σ' s R' r q
    obtain ⟨ob', q1, q2⟩ := q
    have bn : ∀ a, B a = none → Fre H a ∨ ob a ≠ none := fun a e => by
      cases q : ob a with
      | some x => exact .inr fun z => nomatch z
      | none =>
        refine .inl ?_
        cases z : H a with
        | none => exact .inl z
        | some u =>
          cases w : u with
          | tbl ps => exact .inr ⟨ps, by rw [z, w]⟩
          | _ => rw [b2 a u q z fun ps y => by rw [y] at w; cases w] at e; cases e
    refine h5 v H' F' x ob' s R'.sub R'.nt R'.tabs (fun a o e => ?_) (fun a o e1 e2 n => R'.base a o (b2 a o e1 e2 n)) (fun a y e => ?_) r q2
    · rcases R'.new a o e with z | z
      · exact .inl z
      · exact .inr (bn a z)
    · obtain ⟨z1, z2, z3⟩ := R'.own a y (q1 a y e)
      refine ⟨z1, ?_, z3⟩
      rcases bn a z2 with z | z
      · exact .inr z
      · exact .inl z
  refine hx _ ds ob QD h4 F _ H R _ ⟨fun σ' H' F' d' s R' q => fin _ _ _ _ d' σ' s R' relNon q, fun v H' F' x d' σ' s R' r q => fin v H' F' x d' σ' s R' r q, fun _ _ _ _ _ _ z => z.elim, fun _ _ _ _ _ _ z => z.elim⟩
theorem run_pure {K : PySem.W.Frag} {pr : PrP} {vs : List V} {H : Hp} {Q : VK} {E : XK} {t : TS} {N : List Str} (h : spP K pr vs H Q E)
    (hx : ∀ b : Bs, ∀ ds QD, pr ds QD → DX K b t ⟨startD N ds, own0⟩ { nx := fun _ => QD .non, rt := fun r _ => QD r }) : t { nx := fun _ H' => Q .non H', rt := Q } (L2.start N vs) H :=
  run_body h fun b ds ob QD ⟨e, p⟩ => by
    subst e
    have z := hx b ds _ p
    intro F σ H R D k
    refine z F σ H R D ⟨fun σ' H' F' d' s R' q => k.nx σ' H' F' d' s R' ⟨own0, (fun _ _ e => nomatch e), q⟩, fun v H' F' x d' σ' s R' r q => k.rt v H' F' x d' σ' s R' r ⟨own0, (fun _ _ e => nomatch e), q⟩, k.bk, k.ct⟩

section
variable {K : PySem.W.Frag} {b : Bs} {d : St} {Q : Dt → St → Prop} {QB : Bool → St → Prop} {ta tb te tc : TE} {tt tu : TT} {x y : Dt} {i j : Int} {k : Nat} {E0' : XK}
/-! ### calls -/
theorem call_all {pr : Pr} {F : Hp} {σ : L2.St} {H : Hp} {vs : List V} {ds : List Dt} {P : VK} {sl : List (Option Dt)} {own : Own} (R : Rl K b F ⟨sl, own⟩ σ H) (r : RelL K F ds vs) (q : pr ds own fun r ob' => Q r ⟨sl, ob'⟩)
    (kk : ∀ v H' F' x d', Same F F' → Rl K b F' d' σ H' → Rel K F' x v → Q x d' → P v H') (E : XK) : spD K pr vs H P E := by
  refine ⟨F, ds, own, _, R.sub, r, fun a x e => ⟨(R.own a x e).1, (R.own a x e).2.2⟩, ⟨R.nt, R.tabs⟩, q, fun v H' F' x ob' e1 e2 en et e3 e4 e5 e6 e7 => ?_⟩
  refine kk v H' F' x ⟨sl, ob'⟩ e1 ⟨fun a o e => e4 a o ?_ (R.base a o e) (fun ps z => R.nb a ps (by rw [e, z])), e2, R.old.trans e1, fun a o e => ?_, fun a y e => ?_, R.len, fun i z e => ?_, R.nb, en, et⟩ e6 e7
  · cases z : own a with
    | none => rfl
    | some y =>
      have := (R.own a y z).2.1
      rw [e] at this; cases this
  · rcases e3 a o e with z | z | z
    · exact R.new a o z
    · exact .inr (z.of R.nb R.base)
    · cases w : own a with
      | none => exact absurd w z
      | some y => exact .inr (R.own a y w).2.1
  · obtain ⟨z1, z2, z3⟩ := e5 a y e
    refine ⟨z1, ?_, z3⟩
    rcases z2 with z | z
    · cases w : own a with
      | none => exact absurd w z
      | some y => exact (R.own a y w).2.1
    · exact z.of R.nb R.base
  · obtain ⟨v, h1, h2⟩ := R.slots i z e
    exact ⟨v, h1, h2.mono e1⟩
theorem call_pure {pr : PrP} {F : Hp} {σ : L2.St} {H : Hp} {vs : List V} {ds : List Dt} {P : VK} (R : Rl K b F d σ H) (r : RelL K F ds vs) (q : pr ds fun r => Q r d)
    (kk : ∀ v H' F' x d', Same F F' → Rl K b F' d' σ H' → Rel K F' x v → Q x d' → P v H') (E : XK) : spP K pr vs H P E := by
  refine ⟨F, ds, own0, fun r _ => Q r d, R.sub, r, fun a x e => (nomatch e), ⟨R.nt, R.tabs⟩, ⟨rfl, q⟩, fun v H' F' x ob' e1 e2 en et e3 e4 e5 e6 e7 => ?_⟩
  refine kk v H' F' x d e1 (R.growN (fun a o e n => e4 a o rfl e n) et e1 e2 en fun a o e => ?_) e6 e7
  rcases e3 a o e with z | z | z
  · exact .inl z
  · exact .inr z
  · exact absurd rfl z
theorem de_callP {pr : PrP} {t : TA} (h : DA K b t d fun ds d1 => pr ds fun r => Q r d1) : DE K b (tCall (spP K pr) [] E0' t) d Q := fun F σ H R P kk =>
  h F σ H R _ fun vs H1 F1 ds d1 s1 R1 r1 q => by
    rw [List.append_nil]
    exact call_pure R1 r1 q (fun v H' F' x d' s => kk v H' F' x d' (s1.trans s)) _
theorem de_callA {pr : Pr} {t : TA} (h : DA K b t d fun ds d1 => pr ds d1.own fun r ob => Q r ⟨d1.sl, ob⟩) : DE K b (tCall (spD K pr) [] E0' t) d Q := fun F σ H R P kk =>
  h F σ H R _ fun vs H1 F1 ds d1 s1 R1 r1 q => by
    rw [List.append_nil]
    exact call_all (Q := Q) (sl := d1.sl) (own := d1.own) R1 r1 q (fun v H' F' x d' s => kk v H' F' x d' (s1.trans s)) _
/-- an instance of C without a field of that name -/
def IsIns (d : St) (x : Dt) (C : Addr) (m : Str) : Prop := (∃ a fs, x = .ptr a ∧ d.own a = some (.ins C fs) ∧ fs.lookup m = none) ∨ ∃ fs, x = .ins C fs ∧ fs.lookup m = none
theorem isIns {F : Hp} {σ : L2.St} {H : Hp} {C : Addr} {m : Str} {v : V} (R : Rl K b F d σ H) (r : Rel K F x v) (h : IsIns d x C m) : ∃ a dx fs, v = .ref a ∧ H a = some (.ins C dx fs) ∧ fs.lookup m = none := by
  rcases h with ⟨a, fs, e, ho, hl⟩ | ⟨fs, e, hl⟩
  · subst e
    obtain ⟨_, _, dx, vs, h3, h4⟩ := R.own a _ ho
    have r : v = .ref a := by simpa only [Rel] using r
    exact ⟨a, dx, vs, r, h3, h4.none hl⟩
  · subst e
    simp only [Rel] at r
    obtain ⟨p, dx, vs, e, h3, h4⟩ := r
    exact ⟨p, dx, vs, e, R.sub _ _ h3, h4.none hl⟩
theorem de_methA {C : Addr} {m : Str} {pr : Pr} {t : TA} (h : DE K b ta d fun x d1 => IsIns d1 x C m ∧ DA K b t d1 fun ds d2 => pr (x :: ds) d2.own fun r ob => Q r ⟨d2.sl, ob⟩) : DE K b (tMeth C m (spD K pr) [] E0' ta t) d Q := fun F σ H R P kk =>
  h F σ H R _ fun v1 H1 F1 x d1 s1 R1 r1 ⟨hi, q⟩ => by
    obtain ⟨a, dx, fs, e1, e2, e3⟩ := isIns R1 r1 hi
    subst e1
    refine ⟨a, dx, fs, rfl, e2, e3, q F1 σ H1 R1 _ fun vs H2 F2 ds d2 s2 R2 r2 q2 => ?_⟩
    rw [List.append_nil]
    exact call_all (Q := Q) (sl := d2.sl) (own := d2.own) (ds := x :: ds) R2 (.cons (r1.mono s2) r2) q2 (fun v H' F' x d' s => kk v H' F' x d' ((s1.trans s2).trans s)) _
theorem de_make {C : Addr} {pr : Pr} {t : TA} (h : DA K b t d fun ds d1 => ∀ a, d1.own a = none → pr (.ptr a :: ds) (d1.own.put a (.ins C [])) fun r ob => r = .non ∧ Q (.ptr a) ⟨d1.sl, ob⟩) : DE K b (tMake C (spD K pr) [] E0' t) d Q := fun F σ H R P kk =>
  h F σ H R _ fun vs H1 F1 ds d1 s1 R1 r1 q => fun a dx ha hdx ne => by
    rw [List.append_nil]
    have R2 : Rl K b F1 d1 σ (upd H1 dx (.own a)) := R1.grow (same_upd hdx) (Same.refl F1) (R1.sub.trans (same_upd hdx)) R1.nt fun _ _ e => .inl e
    have ha2 : upd H1 dx (.own a) a = none := by rw [upd_ne ne.symm]; exact ha
    have R3 := R2.owned (p := a) ha2 (o := .ins C dx []) (x := .ins C []) ⟨dx, [], upd_same, by simp only [RelF]⟩
    refine call_all (Q := fun r d' => r = .non ∧ Q (.ptr a) d') (sl := d1.sl) (own := d1.own.put a (.ins C [])) (ds := .ptr a :: ds) R3 (.cons relPtr r1) (q a (own_none R1 ha)) (fun v H' F' x d' s R' r q => ?_) _
    obtain ⟨e, q⟩ := q
    subst e
    exact ⟨by simpa only [Rel] using r, kk (.ref a) H' F' (.ptr a) d' (s1.trans s) R' relPtr q⟩

/-! ### fields -/
theorem de_fldF {C : Addr} {f : Str} (hc : Cls K C) (hn : NoAttr K C f) (h : DE K b te d fun x d1 => ∃ fs y, x = .ins C fs ∧ fs.lookup f = some y ∧ Q y d1) : DE K b (tFld K te f) d Q := fun F σ H R P kk =>
  h F σ H R _ fun v H1 F1 x d1 s1 R1 r1 ⟨fs, y, e, hl, q⟩ => by
    subst e
    simp only [Rel] at r1
    obtain ⟨p, dx, vs, e, h3, h4⟩ := r1
    obtain ⟨u, h5, h6⟩ := h4.get hl
    exact ⟨p, C, dx, vs, u, e, R1.sub _ _ h3, hc, hn, h5, kk u H1 F1 y d1 s1 R1 h6 q⟩
theorem de_fldO {C : Addr} {f : Str} (hc : Cls K C) (hn : NoAttr K C f) (h : DE K b te d fun x d1 => ∃ a fs y, x = .ptr a ∧ d1.own a = some (.ins C fs) ∧ fs.lookup f = some y ∧ Q y d1) : DE K b (tFld K te f) d Q := fun F σ H R P kk =>
  h F σ H R _ fun v H1 F1 x d1 s1 R1 r1 ⟨a, fs, y, e, ho, hl, q⟩ => by
    subst e
    obtain ⟨_, _, dx, vs, h3, h4⟩ := R1.own a _ ho
    obtain ⟨u, h5, h6⟩ := h4.get hl
    exact ⟨a, C, dx, vs, u, by simpa only [Rel] using r1, h3, hc, hn, h5, kk u H1 F1 y d1 s1 R1 h6 q⟩
def putD (f : Str) (v : Dt) : List (Str × Dt) → List (Str × Dt)
  | [] => [(f, v)]
  | (g, x) :: r => if g = f then (g, v) :: r else (g, x) :: putD f v r
theorem relF_put {K : PySem.W.Frag} {F : Hp} {f : Str} {x : Dt} {v : V} (h : Rel K F x v) : ∀ {ds : List (Str × Dt)} {vs : List (Str × V)}, RelF K F ds vs → RelF K F (putD f x ds) (putF f v vs)
  | [], _, r => by
    simp only [RelF] at r
    subst r
    simp only [putD, putF, RelF]
    exact ⟨v, [], rfl, h, rfl⟩
  | (g, y) :: ds, _, r => by
    simp only [RelF] at r
    obtain ⟨u, vs, e, h1, h2⟩ := r
    subst e
    by_cases hg : g = f
    · simp only [putD, putF, hg, if_true, RelF]
      exact ⟨v, vs, rfl, h, h2⟩
    · simp only [putD, putF, hg, if_false, RelF]
      exact ⟨u, _, rfl, h1, relF_put h h2⟩
theorem dx_fld {C : Addr} {f : Str} {E : En} (hc : Cls K C) (hn : NoAttr K C f) (h : DE K b tb d fun y d1 => DE K b ta d1 fun x d2 => ∃ a fs, x = .ptr a ∧ d2.own a = some (.ins C fs) ∧ fs.length < 1000 ∧ E.nx ⟨d2.sl, d2.own.put a (.ins C (putD f y fs))⟩) : DX K b (sFld K ta tb f) d E := fun F σ H R D k =>
  h F σ H R _ fun v H1 F1 y d1 s1 R1 r1 q => q F1 σ H1 R1 _ fun u H2 F2 x d2 s2 R2 r2 ⟨a, fs, e, ho, hl, q2⟩ => by
    subst e
    obtain ⟨_, _, dx, vs, h3, h4⟩ := R2.own a _ ho
    refine ⟨a, C, dx, vs, by simpa only [Rel] using r2, h3, hc, hn, by rw [h4.len]; exact hl, k.nx σ _ F2 _ (s1.trans s2) (R2.write ho (x := .ins C (putD f y fs)) ⟨dx, _, upd_same, relF_put (r1.mono s2) h4⟩) q2⟩

/-! ### lists changed -/
theorem de_append (h : DE K b ta d fun x d1 => ∃ a xs, x = .ptr a ∧ d1.own a = some (.lst xs) ∧ DE K b te d1 fun y d2 => ∃ xs, d2.own a = some (.lst xs) ∧ xs.length < 100000 ∧ Q .non ⟨d2.sl, d2.own.put a (.lst (xs ++ [y]))⟩) :
    DE K b (tBM K "list" rAppend ta (tCons te tNil)) d Q := fun F σ H R P kk =>
  h F σ H R _ fun v H1 F1 x d1 s1 R1 r1 ⟨a, xs, e, ho, q⟩ => by
    subst e
    have r1 : v = .ref a := by simpa only [Rel] using r1
    subst r1
    obtain ⟨_, _, vs, h3, h4⟩ := R1.own a _ ho
    refine ⟨.inl ⟨rfl, vs, SqL.of h3⟩, q F1 σ H1 R1 _ fun u H2 F2 y d2 s2 R2 r2 ⟨ys, ho2, hz, q2⟩ => ?_⟩
    obtain ⟨_, _, us, h5, h6⟩ := R2.own a _ ho2
    refine ⟨a, us, u, rfl, rfl, h5, Nat.lt_of_lt_of_le (by rw [h6.len]; exact hz) (by decide), kk .non _ F2 .non _ (s1.trans s2) (R2.write ho2 (x := .lst (ys ++ [y])) ⟨_, upd_same, h6.append (.one r2)⟩) relNon q2⟩
/-- o[i] = v -/
theorem dg_sub {QS : St → Prop} (h : DE K b ta d fun o d1 => DE K b tb d1 fun iy d2 => ∃ a xs j n, o = .ptr a ∧ d2.own a = some (.lst xs) ∧ iy = .int j ∧ ixN xs.length j = some n ∧ QS ⟨d2.sl, d2.own.put a (.lst (xs.set n x))⟩) : DG K b (gSub ta tb rSetL) x d QS := fun F σ H R v r P kk =>
  h F σ H R _ fun vo H1 F1 o d1 s1 R1 r1 q => q F1 σ H1 R1 _ fun vi H2 F2 iy d2 s2 R2 r2 ⟨a, xs, j, n, e1, ho, e2, hi, q2⟩ => by
    subst e1; subst e2
    obtain ⟨_, _, us, h5, h6⟩ := R2.own a _ ho
    exact ⟨a, us, j, n, by simpa only [Rel] using r1, by simpa only [Rel] using r2, h5, by rw [h6.len]; exact hi, kk σ _ F2 _ (s1.trans s2) (R2.write ho (x := .lst (xs.set n x)) ⟨_, upd_same, h6.set (r.mono (s1.trans s2))⟩) q2⟩
theorem dr_cat {xs ys : List Dt} (hz : xs.length + ys.length ≤ 100000) (q : ∀ p, d.own p = none → Q (.ptr p) ⟨d.sl, d.own.put p (.lst (xs ++ ys))⟩) {a c : Addr} (ho : d.own a = some (.lst xs)) (ho' : d.own c = some (.lst ys)) : DR K b rCat (.ptr a) (.ptr c) d Q := fun F σ H R _ _ h1 h2 P kk => by
  obtain ⟨_, _, us, h5, h6⟩ := R.own a _ ho
  obtain ⟨_, _, ws, h7, h8⟩ := R.own c _ ho'
  refine ⟨a, c, us, ws, by simpa only [Rel] using h1, by simpa only [Rel] using h2, h5, h7, Nat.le_trans (by rw [h6.len, h8.len]; exact hz) (by decide), fun p hp => ?_⟩
  exact kk (.ref p) _ F (.ptr p) _ (Same.refl F) (R.owned hp (x := .lst (xs ++ ys)) ⟨_, upd_same, h6.append h8⟩) relPtr (q p (own_none R hp))
end
end DL
/-! DRul3 -/
set_option Elab.async false
set_option linter.all false
set_option maxRecDepth 100000
/-! The data layer: what is walked, comprehensions, built-ins. -/
namespace DL
open PySem PySem.Spec PyProof.Rows L2 RZ
theorem Rl.blk {K : PySem.W.Frag} {b : Bs} {F : Hp} {d : St} {σ σ' : L2.St} {H : Hp} (R : Rl K b F d σ H) {sl : List (Option Dt)} (hl : sl.length = σ'.length) (h : ∀ (i : Nat) (x : Dt), sl[i]? = some (some x) → ∃ v, σ'[i]? = some (some v) ∧ Rel K F x v) : Rl K b F ⟨sl, d.own⟩ σ' H :=
  ⟨R.base, R.sub, R.old, R.new, R.own, hl, h, R.nb, R.nt, R.tabs⟩
section
variable {K : PySem.W.Frag} {b : Bs} {d : St} {Q : Dt → St → Prop} {QB : Bool → St → Prop} {ta tb te tc : TE} {tt tu : TT} {x y : Dt} {i j : Int} {k : Nat}
/-! ### what is walked -/
variable {RI : List Dt → (St → Prop) → St → Prop}
def rangeD (lo : Int) (n : Nat) : List Dt := (List.range n).map fun i => Dt.int (lo + (i : Nat))
theorem rangeD_len (lo : Int) (n : Nat) : (rangeD lo n).length = n := by simp [rangeD]
theorem rangeD_get {lo : Int} {n i : Nat} {x : Dt} (h : (rangeD lo n)[i]? = some x) : x = .int (lo + (i : Nat)) ∧ i < n := by
  have hi : i < n := by
    have := (List.getElem?_eq_some_iff.mp h).1
    rwa [rangeD_len] at this
  refine ⟨?_, hi⟩
  have e : (rangeD lo n)[i]? = some (.int (lo + (i : Nat))) := by simp [rangeD, hi]
  rw [h] at e
  exact Option.some.inj e
theorem dw_range {F1 : Hp} {lo : Int} {n : Nat} : DW K (Itr lo n) (rangeD lo n) F1 (fun _ => True) where
  goes := fun i F d σ H hi _ _ _ => by rw [rangeD_len] at hi; exact hi
  stops := fun F d σ H _ _ _ => by rw [rangeD_len]; exact Nat.le_refl n
  yields := fun i F d σ H v H' hi s R _ y => by
    obtain ⟨e1, e2⟩ := y
    subst e1; subst e2
    rw [rangeD_len] at hi
    exact ⟨F, .int (lo + (i : Nat)), by simp [rangeD, hi], Same.refl F, R, relInt⟩
theorem di_rng1 {t : TA} (h : DA K b t d fun xs d1 => ∃ n : Int, xs = [.int n] ∧ -1000000 ≤ n ∧ n ≤ 1000000 ∧ RI (rangeD 0 n.toNat) (fun _ => True) d1) : DI K b (iRng1 t) d RI := fun F σ H R P kk =>
  h F σ H R _ fun vs H1 F1 xs d1 s1 R1 r1 ⟨n, e, h1, h2, q⟩ => by
    subst e
    obtain ⟨v, r, e1, r2, r3⟩ := r1
    have r3 : r = [] := r3
    have r2 : v = .int n := by simpa only [Rel] using r2
    subst r3; subst r2
    exact ⟨n, e1, by omega, by omega, kk _ H1 F1 d1 _ _ s1 R1 dw_range q⟩
theorem di_rng2 {t : TA} (h : DA K b t d fun xs d1 => ∃ m n : Int, xs = [.int m, .int n] ∧ (-1000000 ≤ m ∧ m ≤ 1000000 ∧ -1000000 ≤ n ∧ n ≤ 1000000) ∧ RI (rangeD m (n - m).toNat) (fun _ => True) d1) : DI K b (iRng2 t) d RI := fun F σ H R P kk =>
  h F σ H R _ fun vs H1 F1 xs d1 s1 R1 r1 ⟨m, n, e, h1, q⟩ => by
    subst e
    obtain ⟨v, r, e1, r2, r3⟩ := r1
    obtain ⟨v', r', e2, r4, r5⟩ := r3
    have r5 : r' = [] := r5
    have r2 : v = .int m := by simpa only [Rel] using r2
    have r4 : v' = .int n := by simpa only [Rel] using r4
    subst r5; subst r2; subst r4; subst e2
    exact ⟨m, n, e1, ⟨by omega, by omega, by omega, by omega⟩, kk _ H1 F1 d1 _ _ s1 R1 dw_range q⟩
theorem dw_of {F1 : Hp} {J : It} {items : List Dt} {G : St → Prop} {n : Nat} {GH : Hp → Prop} {Y : Nat → Hp → V → Hp → Prop} (w : Walk J n GH Y) (hn : items.length = n) (hG : ∀ {b : Bs} (F : Hp) (d : St) (σ : L2.St) (H : Hp), Same F1 F → Rl K b F d σ H → G d → GH H)
    (hy : ∀ {b : Bs} (i : Nat) (F : Hp) (d : St) (σ : L2.St) (H : Hp) (v : V) (H' : Hp), i < n → Same F1 F → Rl K b F d σ H → G d → Y i H v H' → ∃ F' x, items[i]? = some x ∧ Same F F' ∧ Rl K b F' d σ H' ∧ Rel K F' x v) : DW K J items F1 G where
  goes := fun i F d σ H hi s R g => w.goes i H (hn ▸ hi) (hG F d σ H s R g)
  stops := fun F d σ H s R g => by rw [hn]; exact w.stops H (hG F d σ H s R g)
  yields := fun i F d σ H v H' hi s R g y => hy i F d σ H v H' (hn ▸ hi) s R g (w.yields i H v H' (hn ▸ hi) (hG F d σ H s R g) y)
/-- over a frozen list, an owned list, a tuple -/
theorem di_list (h : DE K b te d fun x d1 => ∃ xs, x = .lst xs ∧ RI xs (fun _ => True) d1) : DI K b (iList K te) d RI := fun F σ H R P kk =>
  h F σ H R _ fun v H1 F1 x d1 s1 R1 r1 ⟨xs, e, q⟩ => by
    subst e
    simp only [Rel] at r1
    obtain ⟨p, vs, e1, r2, r3⟩ := r1
    refine ⟨p, e1, ⟨vs, R1.sub.seq r2⟩, kk _ H1 F1 d1 xs _ s1 R1 (dw_of walk_list r3.len.symm (fun F d σ H s R _ => R.sub.seq (s.seq r2)) fun i F d σ H v H' hi s R _ y => ?_) q⟩
    obtain ⟨e, y⟩ := y
    subst e
    have hx : i < xs.length := by rw [← r3.len]; exact hi
    obtain ⟨u, h1, h2⟩ := r3.get (List.getElem?_eq_getElem hx)
    rw [y] at h1
    cases h1
    exact ⟨F, xs[i], List.getElem?_eq_getElem hx, Same.refl F, R, h2.mono s⟩
theorem di_listO (h : DE K b te d fun x d1 => ∃ a xs, x = .ptr a ∧ d1.own a = some (.lst xs) ∧ RI xs (fun d2 => d2.own a = some (.lst xs)) d1) : DI K b (iList K te) d RI := fun F σ H R P kk =>
  h F σ H R _ fun v H1 F1 x d1 s1 R1 r1 ⟨a, xs, e, ho, q⟩ => by
    subst e
    have r1 : v = .ref a := by simpa only [Rel] using r1
    subst r1
    obtain ⟨_, _, vs, h3, h4⟩ := R1.own a _ ho
    refine ⟨a, rfl, ⟨vs, SqL.of h3⟩, kk _ H1 F1 d1 xs _ s1 R1 ⟨fun i F d σ H hi s R g => ?_, fun F d σ H s R g => ?_, fun i F d σ H v H' hi s R g y => ?_⟩ q⟩
    · obtain ⟨_, _, us, h5, h6⟩ := R.own a _ g
      obtain ⟨u, h7, _⟩ := h6.get (List.getElem?_eq_getElem hi)
      exact ⟨us, u, SqL.of h5, h7⟩
    · obtain ⟨_, _, us, h5, h6⟩ := R.own a _ g
      exact ⟨us, SqL.of h5, by rw [h6.len]; exact Nat.le_refl _⟩
    · obtain ⟨_, _, us, h5, h6⟩ := R.own a _ g
      obtain ⟨u, h7, h8⟩ := h6.get (List.getElem?_eq_getElem hi)
      obtain ⟨e, y⟩ := y
      subst e
      have := y us (SqL.of h5)
      rw [h7] at this
      cases this
      exact ⟨F, xs[i], List.getElem?_eq_getElem hi, Same.refl F, R, h8⟩
theorem di_tup (h : DE K b te d fun x d1 => ∃ xs, x = .tup xs ∧ RI xs (fun _ => True) d1) : DI K b (iTup K te) d RI := fun F σ H R P kk =>
  h F σ H R _ fun v H1 F1 x d1 s1 R1 r1 ⟨xs, e, q⟩ => by
    subst e
    simp only [Rel] at r1
    obtain ⟨p, vs, e1, r2, r3⟩ := r1
    refine ⟨p, e1, ⟨vs, sqt_mono R1.sub r2⟩, kk _ H1 F1 d1 xs _ s1 R1 (dw_of walk_tup r3.len.symm (fun F d σ H s R _ => sqt_mono R.sub (sqt_mono s r2)) fun i F d σ H v H' hi s R _ y => ?_) q⟩
    obtain ⟨e, y⟩ := y
    subst e
    have hx : i < xs.length := by rw [← r3.len]; exact hi
    obtain ⟨u, h1, h2⟩ := r3.get (List.getElem?_eq_getElem hx)
    rw [y] at h1
    cases h1
    exact ⟨F, xs[i], List.getElem?_eq_getElem hx, Same.refl F, R, h2.mono s⟩
/-- a new pair -/
theorem pair_new {F : Hp} {σ : L2.St} {H : Hp} {u w : V} {T : Addr} (R : Rl K b F d σ H) (hT : H T = none) (hx : Rel K F x u) (hy : Rel K F y w) : Same F (upd F T (.tup [u, w])) ∧ Rl K b (upd F T (.tup [u, w])) d σ (upd H T (.tup [u, w])) ∧ Rel K (upd F T (.tup [u, w])) (.tup [x, y]) (.ref T) := by
  obtain ⟨e, R'⟩ := R.frz hT (.tup [u, w]) (fun _ z => nomatch z)
  exact ⟨e, R', relTup (.inl (.inl upd_same)) (.cons (hx.mono e) (.cons (hy.mono e) .nil))⟩
def enumD (xs : List Dt) : List Dt := (List.range xs.length).map fun i => .tup [.int (i : Nat), xs.getD i .non]
theorem enumD_len (xs : List Dt) : (enumD xs).length = xs.length := by simp [enumD]
theorem enumD_at {xs : List Dt} {i : Nat} (hi : i < xs.length) : (enumD xs)[i]? = some (.tup [.int (i : Nat), xs[i]]) := by
  simp [enumD, hi]
theorem enumD_get {xs : List Dt} {i : Nat} {x : Dt} (h : (enumD xs)[i]? = some x) : ∃ y, xs[i]? = some y ∧ x = .tup [.int (i : Nat), y] := by
  have hi : i < xs.length := by
    have := (List.getElem?_eq_some_iff.mp h).1
    rwa [enumD_len] at this
  rw [enumD_at hi] at h
  exact ⟨xs[i], List.getElem?_eq_getElem hi, (Option.some.inj h).symm⟩
theorem di_enum {t : TA} (h : DA K b t d fun ys d1 => ∃ xs, ys = [.lst xs] ∧ RI (enumD xs) (fun _ => True) d1) : DI K b (iEnum K t) d RI := fun F σ H R P kk =>
  h F σ H R _ fun vs H1 F1 ys d1 s1 R1 r1 ⟨xs, e, q⟩ => by
    subst e
    obtain ⟨v, r, e1, r2, r3⟩ := r1
    have r3 : r = [] := r3
    subst r3
    simp only [Rel] at r2
    obtain ⟨p, us, e2, r4, r5⟩ := r2
    subst e2
    refine ⟨p, us, e1, R1.sub.seq r4, kk _ H1 F1 d1 _ _ s1 R1 (dw_of walk_enum (by rw [enumD_len]; exact r5.len.symm) (fun F d σ H s R _ => R.sub.seq (s.seq r4)) fun i F d σ H v H' hi s R _ y => ?_) q⟩
    obtain ⟨T, x1, y1, e, hT, eH, f1, f2⟩ := y
    subst e; subst eH
    have hx : i < xs.length := by rw [← r5.len]; exact hi
    obtain ⟨u, h1, h2⟩ := r5.get (List.getElem?_eq_getElem hx)
    rw [show us[i]? = some y1 from f2] at h1
    cases h1
    have f1 : some (V.int (i : Nat)) = some x1 := f1
    cases f1
    obtain ⟨a1, a2, a3⟩ := pair_new R hT (x := .int (i : Nat)) relInt (h2.mono s)
    exact ⟨_, _, enumD_at hx, a1, a2, a3⟩
theorem di_enumO {t : TA} (h : DA K b t d fun ys d1 => ∃ a xs, ys = [.ptr a] ∧ d1.own a = some (.lst xs) ∧ RI (enumD xs) (fun d2 => d2.own a = some (.lst xs)) d1) : DI K b (iEnum K t) d RI := fun F σ H R P kk =>
  h F σ H R _ fun vs H1 F1 ys d1 s1 R1 r1 ⟨a, xs, e, ho, q⟩ => by
    subst e
    obtain ⟨v, r, e1, r2, r3⟩ := r1
    have r3 : r = [] := r3
    subst r3
    have r2 : v = .ref a := by simpa only [Rel] using r2
    subst r2
    obtain ⟨_, _, us0, h3, h4⟩ := R1.own a _ ho
    refine ⟨a, us0, e1, SqL.of h3, kk _ H1 F1 d1 _ _ s1 R1 ⟨fun i F d σ H hi s R g => ?_, fun F d σ H s R g => ?_, fun i F d σ H v H' hi s R g y => ?_⟩ q⟩
    · rw [enumD_len] at hi
      obtain ⟨_, _, us, h5, h6⟩ := R.own a _ g
      obtain ⟨u, h7, _⟩ := h6.get (List.getElem?_eq_getElem hi)
      exact ⟨us, u, SqL.of h5, h7⟩
    · obtain ⟨_, _, us, h5, h6⟩ := R.own a _ g
      rw [enumD_len]
      exact ⟨us, SqL.of h5, by rw [h6.len]; exact Nat.le_refl _⟩
    · rw [enumD_len] at hi
      obtain ⟨_, _, us, h5, h6⟩ := R.own a _ g
      obtain ⟨u, h7, h8⟩ := h6.get (List.getElem?_eq_getElem hi)
      obtain ⟨T, x1, e, hT, eH, f2⟩ := y
      subst e; subst eH
      have := f2 us (SqL.of h5)
      rw [h7] at this
      cases this
      obtain ⟨a1, a2, a3⟩ := pair_new R hT (x := .int (i : Nat)) relInt h8
      exact ⟨_, _, enumD_at hi, a1, a2, a3⟩
def zipD (xs ys : List Dt) : List Dt := (xs.zip ys).map fun p => .tup [p.1, p.2]
theorem zipD_len (xs ys : List Dt) : (zipD xs ys).length = min xs.length ys.length := by simp [zipD]
theorem zipD_at {xs ys : List Dt} {i : Nat} {x y : Dt} (h1 : xs[i]? = some x) (h2 : ys[i]? = some y) : (zipD xs ys)[i]? = some (.tup [x, y]) := by
  unfold zipD
  rw [List.getElem?_map, (List.getElem?_zip_eq_some (z := (x, y))).mpr ⟨h1, h2⟩]; rfl
theorem zipD_get {xs ys : List Dt} {i : Nat} {z : Dt} (h : (zipD xs ys)[i]? = some z) : ∃ x y, xs[i]? = some x ∧ ys[i]? = some y ∧ z = .tup [x, y] := by
  have hi := (List.getElem?_eq_some_iff.mp h).1
  rw [zipD_len] at hi
  have h1 : i < xs.length := by omega
  have h2 : i < ys.length := by omega
  refine ⟨xs[i], ys[i], List.getElem?_eq_getElem h1, List.getElem?_eq_getElem h2, ?_⟩
  rw [zipD_at (List.getElem?_eq_getElem h1) (List.getElem?_eq_getElem h2)] at h
  exact (Option.some.inj h).symm
theorem walk_zipT {K : PySem.W.Frag} {a c : Addr} {xs ys : List V} {n : Nat} (hn : n = min xs.length ys.length) : Walk (ItzT K a c) n (fun H => SqT K H a xs ∧ SqT K H c ys) (YPair (fun i => xs[i]?) (fun i => ys[i]?)) := by
  subst hn
  refine ⟨fun i _ hi q => ?_, fun _ q => ⟨xs, ys, q.1, q.2, by omega⟩, fun i H v H' _ q y => ?_⟩
  · have g1 : i < xs.length := by omega
    have g2 : i < ys.length := by omega
    exact ⟨xs, ys, xs[i], ys[i], q.1, q.2, by simp [g1], by simp [g2]⟩
  · obtain ⟨T, x, z, g1, g2, g3, g4, g5⟩ := y
    exact ⟨T, x, z, g1, g2, g3, g4 xs q.1, g5 ys q.2⟩
theorem di_zipT {t : TA} (h : DA K b t d fun zs d1 => ∃ xs ys, zs = [.tup xs, .tup ys] ∧ RI (zipD xs ys) (fun _ => True) d1) : DI K b (iZipA K t) d RI := fun F σ H R P kk =>
  h F σ H R _ fun vs H1 F1 zs d1 s1 R1 r1 ⟨xs, ys, e, q⟩ => by
    subst e
    obtain ⟨v, r, e1, r2, r3⟩ := r1
    obtain ⟨v', r', e2, r4, r5⟩ := r3
    have r5 : r' = [] := r5
    simp only [Rel] at r2 r4
    obtain ⟨p, us, e3, r6, r7⟩ := r2
    obtain ⟨p', us', e4, r8, r9⟩ := r4
    subst r5; subst e2; subst e3; subst e4
    refine ⟨p, p', us, us', e1, .inr ⟨sqt_mono R1.sub r6, sqt_mono R1.sub r8, kk _ H1 F1 d1 _ _ s1 R1 (dw_of (walk_zipT rfl) (by rw [zipD_len, r7.len, r9.len]) (fun F d σ H s R _ => ⟨sqt_mono R.sub (sqt_mono s r6), sqt_mono R.sub (sqt_mono s r8)⟩) fun i F d σ H v H' hi s R _ y => ?_) q⟩⟩
    obtain ⟨T, x1, y1, e, hT, eH, f1, f2⟩ := y
    subst e; subst eH
    have l1 := r7.len
    have l2 := r9.len
    have hx : i < xs.length := by omega
    have hy : i < ys.length := by omega
    obtain ⟨u, h1, h2⟩ := r7.get (List.getElem?_eq_getElem hx)
    obtain ⟨w, h3, h4⟩ := r9.get (List.getElem?_eq_getElem hy)
    rw [show us[i]? = some x1 from f1] at h1; cases h1
    rw [show us'[i]? = some y1 from f2] at h3; cases h3
    obtain ⟨a1, a2, a3⟩ := pair_new R hT (h2.mono s) (h4.mono s)
    exact ⟨_, _, zipD_at (List.getElem?_eq_getElem hx) (List.getElem?_eq_getElem hy), a1, a2, a3⟩
theorem di_zipL {t : TA} (h : DA K b t d fun zs d1 => ∃ xs ys, zs = [.lst xs, .lst ys] ∧ RI (zipD xs ys) (fun _ => True) d1) : DI K b (iZipA K t) d RI := fun F σ H R P kk =>
  h F σ H R _ fun vs H1 F1 zs d1 s1 R1 r1 ⟨xs, ys, e, q⟩ => by
    subst e
    obtain ⟨v, r, e1, r2, r3⟩ := r1
    obtain ⟨v', r', e2, r4, r5⟩ := r3
    have r5 : r' = [] := r5
    simp only [Rel] at r2 r4
    obtain ⟨p, us, e3, r6, r7⟩ := r2
    obtain ⟨p', us', e4, r8, r9⟩ := r4
    subst r5; subst e2; subst e3; subst e4
    refine ⟨p, p', us, us', e1, .inl ⟨R1.sub.seq r6, R1.sub.seq r8, kk _ H1 F1 d1 _ _ s1 R1 (dw_of (walk_zip rfl) (by rw [zipD_len, r7.len, r9.len]) (fun F d σ H s R _ => ⟨R.sub.seq (s.seq r6), R.sub.seq (s.seq r8)⟩) fun i F d σ H v H' hi s R _ y => ?_) q⟩⟩
    obtain ⟨T, x1, y1, e, hT, eH, f1, f2⟩ := y
    subst e; subst eH
    have l1 := r7.len
    have l2 := r9.len
    have hx : i < xs.length := by omega
    have hy : i < ys.length := by omega
    obtain ⟨u, h1, h2⟩ := r7.get (List.getElem?_eq_getElem hx)
    obtain ⟨w, h3, h4⟩ := r9.get (List.getElem?_eq_getElem hy)
    rw [show us[i]? = some x1 from f1] at h1; cases h1
    rw [show us'[i]? = some y1 from f2] at h3; cases h3
    obtain ⟨a1, a2, a3⟩ := pair_new R hT (h2.mono s) (h4.mono s)
    exact ⟨_, _, zipD_at (List.getElem?_eq_getElem hx) (List.getElem?_eq_getElem hy), a1, a2, a3⟩

/-! ### comprehensions -/
theorem wipe_set (σ : L2.St) (k : Nat) : ∀ vs : List Nat, wipe (σ.set k none) vs = (wipe σ vs).set k none
  | [] => rfl
  | v :: vs => by
    show (wipe (σ.set k none) vs).set v none = ((wipe σ vs).set v none).set k none
    rw [wipe_set σ k vs]
    by_cases e : k = v
    · subst e; rfl
    · rw [List.set_comm _ _ e]
theorem wipe_wipe (σ : L2.St) : ∀ vs : List Nat, wipe (wipe σ vs) vs = wipe σ vs
  | [] => rfl
  | v :: vs => by
    show (wipe ((wipe σ vs).set v none) vs).set v none = (wipe σ vs).set v none
    rw [wipe_set, wipe_wipe σ vs, List.set_set]
theorem wipeD_wipe {sl : List (Option Dt)} {σ : L2.St} {F : Hp} (hs : ∀ (i : Nat) (x : Dt), sl[i]? = some (some x) → ∃ v, σ[i]? = some (some v) ∧ Rel K F x v) {vs : List Nat} : ∀ (i : Nat) (x : Dt), (wipeD sl vs)[i]? = some (some x) → ∃ v, (wipe σ vs)[i]? = some (some v) ∧ Rel K F x v := fun i x e => by
  obtain ⟨h1, h2⟩ := wipe_get (σ := σ) e
  obtain ⟨v, h3, h4⟩ := hs i x h1
  exact ⟨v, h2.trans h3, h4⟩
/-- wipes again: each target's slot lies among vs -/
def Wp (g : TG) (vs : List Nat) : Prop := ∀ v σ H P, g v σ H P → g v σ H fun σ2 H2 => wipe σ2 vs = wipe σ vs ∧ P σ2 H2
theorem wp_name {k : Nat} {vs : List Nat} (h : k ∈ vs) : Wp (gName k) vs := fun v σ H P q => ⟨by
  clear q
  induction vs with
  | nil => cases h
  | cons w vs ih =>
    by_cases e : k = w
    · subst e
      by_cases hm : k ∈ vs
      · show (wipe (σ.set k (some v)) vs).set k none = (wipe σ vs).set k none
        rw [ih hm]
      · show (wipe (σ.set k (some v)) vs).set k none = (wipe σ vs).set k none
        have : ∀ ws : List Nat, k ∉ ws → wipe (σ.set k (some v)) ws = (wipe σ ws).set k (some v) := fun ws => by
          induction ws with
          | nil => intro _; rfl
          | cons u us ihu =>
            intro hu
            show (wipe (σ.set k (some v)) us).set u none = ((wipe σ us).set u none).set k (some v)
            rw [ihu (fun z => hu (List.mem_cons_of_mem _ z)), List.set_comm _ _ (show k ≠ u from fun z => hu (by rw [z]; exact List.mem_cons_self))]
        rw [this vs hm, List.set_set]
    · have hm : k ∈ vs := by
        rcases List.mem_cons.mp h with z | z
        · exact absurd z e
        · exact z
      show (wipe (σ.set k (some v)) vs).set w none = (wipe σ vs).set w none
      rw [ih hm], q⟩
def WpS (g : TGs) (vs : List Nat) : Prop := ∀ v σ H P, g v σ H P → g v σ H fun σ2 H2 => wipe σ2 vs = wipe σ vs ∧ P σ2 H2
/-- a target's reading is monotone -/
def MoG (g : TG) : Prop := ∀ v σ H P P', (∀ σ H, P σ H → P' σ H) → g v σ H P → g v σ H P'
def MoGs (g : TGs) : Prop := ∀ v σ H P P', (∀ σ H, P σ H → P' σ H) → g v σ H P → g v σ H P'
theorem mo_name {k : Nat} : MoG (gName k) := fun _ _ _ _ _ h q => h _ _ q
theorem mos_nil : MoGs gNil := fun _ _ _ _ _ h ⟨e, q⟩ => ⟨e, h _ _ q⟩
theorem mos_cons {g : TG} {gs : TGs} (h1 : MoG g) (h2 : MoGs gs) : MoGs (gCons g gs) := fun _ _ _ _ _ h ⟨v, r, e, q⟩ => ⟨v, r, e, h1 _ _ _ _ _ (fun _ _ q => h2 _ _ _ _ _ h q) q⟩
theorem mo_tup {gs : TGs} {K : PySem.W.Frag} {n : Nat} (h2 : MoGs gs) : MoG (gTup K n gs) := fun _ _ _ _ _ h ⟨a, xs, e1, e2, e3, q⟩ => ⟨a, xs, e1, e2, e3, h2 _ _ _ _ _ h q⟩
theorem wps_nil {vs : List Nat} : WpS gNil vs := fun _ _ _ _ ⟨e, q⟩ => ⟨e, rfl, q⟩
theorem wps_cons {g : TG} {gs : TGs} {vs : List Nat} (h1 : Wp g vs) (h2 : WpS gs vs) (m1 : MoG g) (m2 : MoGs gs) : WpS (gCons g gs) vs := fun _ σ _ _ ⟨v, r, e, q⟩ =>
  ⟨v, r, e, m1 _ _ _ _ _ (fun _ _ ⟨e1, q⟩ => m2 _ _ _ _ _ (fun _ _ ⟨e2, q⟩ => ⟨e2.trans e1, q⟩) (h2 _ _ _ _ q)) (h1 _ _ _ _ q)⟩
theorem wp_tup {gs : TGs} {K : PySem.W.Frag} {n : Nat} {vs : List Nat} (h2 : WpS gs vs) : Wp (gTup K n gs) vs := fun _ _ _ _ ⟨a, xs, e1, e2, e3, q⟩ => ⟨a, xs, e1, e2, e3, h2 _ _ _ _ q⟩
theorem Rl.lay {F : Hp} {σ : L2.St} {H : Hp} (R : Rl K b F d σ H) {D : Addr} {o : HO} (hF : F D = none) (ho : d.own D = none) (hH : H D = some o) (hno : ∀ ps, o ≠ .tbl ps) : Rl K ⟨upd b.B D o, b.F0⟩ F d σ H where
  nb := R.nb.upd hno
  nt := R.nt
  tabs := R.tabs
  base := fun a u e => by
    have e : upd b.B D o a = some u := e
    by_cases h : a = D
    · subst h; rw [upd_same] at e; cases e; exact hH
    · rw [upd_ne h] at e; exact R.base a u e
  sub := R.sub
  old := R.old
  new := fun a u e => (R.new a u e).imp_right fun z => by
    show upd b.B D o a = none
    rw [upd_ne (fun q => by rw [q, hF] at e; cases e)]; exact z
  own := fun a x e => by
    obtain ⟨h1, h2, h3⟩ := R.own a x e
    refine ⟨h1, ?_, h3⟩
    show upd b.B D o a = none
    rw [upd_ne (fun q => by rw [q, ho] at e; cases e)]; exact h2
  len := R.len
  slots := R.slots
theorem Rl.unlay {F : Hp} {σ : L2.St} {H : Hp} {D : Addr} {o : HO} (R : Rl K ⟨upd b.B D o, b.F0⟩ F d σ H) (hB : b.B D = none) (h0 : b.F0 D = none) : Rl K b F d σ H ∧ H D = some o ∧ F D = none ∧ d.own D = none := by
  have nb : ∀ a, (upd b.B D o) a = none → b.B a = none ∧ a ≠ D := fun a e => by
    have h : a ≠ D := fun q => by subst q; rw [upd_same] at e; cases e
    rw [upd_ne h] at e
    exact ⟨e, h⟩
  refine ⟨⟨fun a u e => R.base a u ?_, R.sub, R.old, fun a u e => (R.new a u e).imp_right fun z => (nb a z).1, fun a x e => ?_, R.len, R.slots, fun a ps e => R.nb a ps (show upd b.B D o a = _ from by rw [upd_ne (ne_of_none e hB)]; exact e), R.nt, R.tabs⟩, R.base D o upd_same, ?_, ?_⟩
  · show upd b.B D o a = some u
    rw [upd_ne (ne_of_none e hB)]; exact e
  · obtain ⟨h1, h2, h3⟩ := R.own a x e
    exact ⟨h1, (nb a h2).1, h3⟩
  · cases q : F D with
    | none => rfl
    | some u =>
      rcases R.new D u q with z | z
      · have z : b.F0 D = some u := z
        rw [h0] at z; cases z
      · exact absurd rfl (nb D z).2
  · cases q : d.own D with
    | none => rfl
    | some x => exact absurd rfl (nb D (R.own D x q).2.1).2
theorem de_lcO {wi : TI} {g : TG} {vs : List Nat} (hw : Wp g vs) (hm : MoG g) (h : DI K b wi d fun items G d1 => items.length ≤ 100000 ∧ ∃ Iv : Nat → List Dt → Own → Prop, Iv 0 [] d1.own ∧ (∀ i acc ow, i ≤ items.length → Iv i acc ow → G ⟨wipeD d1.sl vs, ow⟩) ∧
    (∀ (b : Bs) i x acc ow, items[i]? = some x → Iv i acc ow → DG K b g x ⟨wipeD d1.sl vs, ow⟩ fun d2 => DT K b tt d2 fun c d3 => if c = true then DE K b te d3 fun y d4 => Iv (i + 1) (acc ++ [y]) d4.own else Iv (i + 1) acc d3.own) ∧
    ∀ acc ow, Iv items.length acc ow → ∀ p, ow p = none → Q (.ptr p) ⟨d1.sl, ow.put p (.lst acc)⟩) : DE K b (tLc wi g tt te vs) d Q := fun F σ H R P kk =>
  h F σ H R _ fun J H1 F1 d1 items G s1 R1 w ⟨hlen, Iv, i0, iG, turn, done⟩ => fun D hD => by
    have f0 : b.F0 D = none := R1.old.free (R1.sub.free hD)
    have b0 : b.B D = none := R1.base.free hD
    refine ⟨fun i m H => m = items.length - i ∧ i ≤ items.length ∧ ∃ F2 ow acc us, acc.length ≤ i ∧ Same F1 F2 ∧ F2 D = none ∧ ow D = none ∧ Rl K b F2 ⟨d1.sl, ow⟩ σ H ∧ H D = some (.lst us) ∧ RelL K F2 acc us ∧ Iv i acc ow,
      ⟨items.length, by simp, Nat.zero_le _, F1, d1.own, [], [], Nat.le_refl _, Same.refl F1, R1.sub.free hD, own_none R1 hD, R1.grow (same_upd hD) (Same.refl F1) (R1.sub.trans (same_upd hD)) R1.nt (fun _ _ e => .inl e), upd_same, .nil, i0⟩, ?_⟩
    rintro i m H2 ⟨rfl, hi, F2, ow, acc, us, ha, s2, fD, oD, R2, hDl, ru, iv⟩
    have Rb : Rl K ⟨upd b.B D (.lst us), b.F0⟩ F2 ⟨wipeD d1.sl vs, ow⟩ (wipe σ vs) H2 := (R2.blk (sl := wipeD d1.sl vs) (σ' := wipe σ vs) (by rw [wipeD_len, wipe_len']; exact R2.len) (wipeD_wipe R2.slots)).lay fD oD hDl (fun _ z => nomatch z)
    by_cases hlt : i < items.length
    · refine .inr ⟨w.goes i F2 ⟨wipeD d1.sl vs, ow⟩ (wipe σ vs) H2 hlt s2 Rb (iG i acc ow hi iv), fun H' => ∃ F3 ow' acc' us', acc'.length ≤ i + 1 ∧ Same F1 F3 ∧ F3 D = none ∧ ow' D = none ∧ Rl K b F3 ⟨d1.sl, ow'⟩ σ H' ∧ H' D = some (.lst us') ∧ RelL K F3 acc' us' ∧ Iv (i + 1) acc' ow',
        fun H' h' => ⟨_, by omega, rfl, hlt, h'⟩, fun v H3 hy => ?_⟩
      obtain ⟨F3, x, ex, s3, R3, r3⟩ := w.yields i F2 ⟨wipeD d1.sl vs, ow⟩ (wipe σ vs) H2 v H3 hlt s2 Rb (iG i acc ow hi iv) hy
      have back : ∀ {F' : Hp} {d' : St} {σ' : L2.St} {H' : Hp}, Same F2 F' → Rl K ⟨upd b.B D (.lst us), b.F0⟩ F' d' σ' H' → Rl K b F' ⟨d1.sl, d'.own⟩ σ H' ∧ H' D = some (.lst us) ∧ F' D = none ∧ d'.own D = none := fun s' R' => by
        obtain ⟨z1, z2, z3, z4⟩ := R'.unlay b0 f0
        refine ⟨z1.blk R2.len fun i x e => ?_, z2, z3, z4⟩
        obtain ⟨v, h1, h2⟩ := R2.slots i x e
        exact ⟨v, h1, h2.mono s'⟩
      have tq := turn _ i x acc ow ex iv F3 (wipe σ vs) H3 R3 v r3 (fun σ4 H4 => ∃ F4 d4, Same F3 F4 ∧ Rl K ⟨upd b.B D (.lst us), b.F0⟩ F4 d4 σ4 H4 ∧ DT K ⟨upd b.B D (.lst us), b.F0⟩ tt d4 fun c d3 => if c = true then DE K ⟨upd b.B D (.lst us), b.F0⟩ te d3 fun y d4 => Iv (i + 1) (acc ++ [y]) d4.own else Iv (i + 1) acc d3.own) fun σ4 H4 F4 d4 s4 R4 q4 => ⟨F4, d4, s4, R4, q4⟩
      refine hm _ _ _ _ _ (fun σ4 H4 z => ?_) (hw v (wipe σ vs) H3 _ tq)
      obtain ⟨ew, F4, d4, s4, R4, q4⟩ := z
      refine ⟨by rw [ew]; exact wipe_wipe σ vs, q4 F4 σ4 H4 R4 _ fun c H5 F5 d5 s5 R5 q5 => ?_⟩
      cases c with
      | false =>
        rw [if_neg Bool.false_ne_true] at q5 ⊢
        obtain ⟨z1, z2, z3, z4⟩ := back ((s3.trans s4).trans s5) R5
        exact ⟨F5, d5.own, acc, us, by omega, s2.trans ((s3.trans s4).trans s5), z3, z4, z1, z2, ru.mono ((s3.trans s4).trans s5), q5⟩
      | true =>
        rw [if_pos rfl] at q5 ⊢
        refine q5 F5 σ4 H5 R5 _ fun y H6 F6 yd d6 s6 R6 r6 q6 => ?_
        have sa := (((s3.trans s4).trans s5).trans s6)
        obtain ⟨z1, z2, z3, z4⟩ := back sa R6
        refine ⟨us, z2, Nat.lt_of_le_of_lt (show us.length ≤ 100000 by rw [ru.len]; omega) (by decide), F6, d6.own, acc ++ [yd], us ++ [y], by simp; omega, s2.trans sa, z3, z4, ?_, upd_same, (ru.mono sa).append (.one r6), q6⟩
        refine ⟨fun a u e => ?_, fun a u e => ?_, z1.old, z1.new, fun a x e => ?_, z1.len, z1.slots, z1.nb, z1.nt, z1.tabs.write z2 (fun _ z => nomatch z) (fun _ _ z => by cases z)⟩
        · rw [upd_ne (ne_of_none e b0)]; exact z1.base a u e
        · rw [upd_ne (ne_of_none e z3)]; exact z1.sub a u e
        · obtain ⟨w1, w2, w3⟩ := z1.own a x e
          exact ⟨w1, w2, w3.at (upd_ne fun q => by subst q; rw [show d6.own a = some x from e] at z4; cases z4)⟩
    · have e : i = items.length := by omega
      subst e
      refine .inl ⟨w.stops F2 ⟨wipeD d1.sl vs, ow⟩ (wipe σ vs) H2 s2 Rb (iG _ acc ow hi iv), kk (.ref D) H2 F2 (.ptr D) ⟨d1.sl, ow.put D (.lst acc)⟩ (s1.trans s2) ?_ relPtr (done acc ow iv D oD)⟩
      refine ⟨R2.base, R2.sub, R2.old, R2.new, fun a x e => ?_, R2.len, R2.slots, R2.nb, R2.nt, R2.tabs⟩
      by_cases h : a = D
      · subst h
        have e : some (Ow.lst acc) = some x := by rw [← e]; exact Own.put_same.symm
        cases e
        exact ⟨fD, b0, us, hDl, ru⟩
      · have e : ow a = some x := by rw [← e]; exact (Own.put_ne h).symm
        exact R2.own a x e
theorem put_del {o : Own} {a : Addr} {x : Ow} (h : o a = none) : (o.put a x).del a = o := by
  funext c
  by_cases e : c = a
  · subst e; simp [Own.del, h]
  · simp [Own.del, Own.put, e]
/-- the same, the new list frozen -/
theorem de_lc {wi : TI} {g : TG} {vs : List Nat} (hw : Wp g vs) (hm : MoG g) (h : DI K b wi d fun items G d1 => items.length ≤ 100000 ∧ ∃ Iv : Nat → List Dt → Own → Prop, Iv 0 [] d1.own ∧ (∀ i acc ow, i ≤ items.length → Iv i acc ow → G ⟨wipeD d1.sl vs, ow⟩) ∧
    (∀ (b : Bs) i x acc ow, items[i]? = some x → Iv i acc ow → DG K b g x ⟨wipeD d1.sl vs, ow⟩ fun d2 => DT K b tt d2 fun c d3 => if c = true then DE K b te d3 fun y d4 => Iv (i + 1) (acc ++ [y]) d4.own else Iv (i + 1) acc d3.own) ∧
    ∀ acc ow, Iv items.length acc ow → Q (.lst acc) ⟨d1.sl, ow⟩) : DE K b (tLc wi g tt te vs) d Q :=
  de_frz (de_lcO hw hm fun F σ H R P kk => h F σ H R P fun J H' F' d' items G s R' w ⟨h1, Iv, h2, h3, h4, h5⟩ => kk J H' F' d' items G s R' w ⟨h1, Iv, h2, h3, h4, fun acc ow iv p hp => ⟨p, acc, rfl, Own.put_same, by
    rw [put_del hp]; exact h5 acc ow iv⟩⟩)
end
end DL
/-! DRul4 -/
set_option Elab.async false
set_option linter.all false
set_option maxRecDepth 100000
/-! The data layer: built-ins, slices, membership. -/
namespace DL
open PySem PySem.Spec PyProof.Rows L2 RZ
theorem relL_ints {K : PySem.W.Frag} {F : Hp} : ∀ {ns : List Int} {vs : List V}, RelL K F (ns.map Dt.int) vs → vs = ns.map V.int
  | [], vs, h => by simpa only [List.map_nil, RelL] using h
  | n :: ns, vs, h => by
    simp only [List.map_cons, RelL, Rel] at h
    obtain ⟨v, r, e, e1, h⟩ := h
    rw [e, e1, relL_ints h, List.map_cons]
theorem relL_intsI {K : PySem.W.Frag} {F : Hp} : ∀ (ns : List Int), RelL K F (ns.map Dt.int) (ns.map V.int)
  | [] => .nil
  | n :: ns => .cons relInt (relL_intsI ns)
theorem relL_bls {K : PySem.W.Frag} {F : Hp} : ∀ {ns : List Bool} {vs : List V}, RelL K F (ns.map Dt.bl) vs → vs = ns.map V.bl
  | [], vs, h => by simpa only [List.map_nil, RelL] using h
  | n :: ns, vs, h => by
    simp only [List.map_cons, RelL, Rel] at h
    obtain ⟨v, r, e, e1, h⟩ := h
    rw [e, e1, relL_bls h, List.map_cons]
theorem one_of {K : PySem.W.Frag} {F : Hp} {x : Dt} {vs : List V} (h : RelL K F [x] vs) : ∃ v, vs = [v] ∧ Rel K F x v := by
  obtain ⟨v, r, e, h1, h2⟩ := h
  have h2 : r = [] := h2
  exact ⟨v, by rw [e, h2], h1⟩
theorem two_of {K : PySem.W.Frag} {F : Hp} {x y : Dt} {vs : List V} (h : RelL K F [x, y] vs) : ∃ v w, vs = [v, w] ∧ Rel K F x v ∧ Rel K F y w := by
  obtain ⟨v, r, e, h1, h2⟩ := h
  obtain ⟨w, e2, h3⟩ := one_of h2
  exact ⟨v, w, by rw [e, e2], h1, h3⟩
section
variable {K : PySem.W.Frag} {b : Bs} {d : St} {Q : Dt → St → Prop} {QB : Bool → St → Prop} {ta tb te tc : TE} {tt tu : TT} {x y : Dt} {i j : Int} {k : Nat}
/-! ### len -/
def rLen (K : PySem.W.Frag) : List V → Hp → VK → Prop := fun xs H Q => ∃ x n, xs = [x] ∧ LenV K x H n ∧ Q (.int n) H
theorem call_len' {X : Cx} : CallR X (.builtin "len") (rLen X.K) := call_len
theorem dc_lenT {xs : List Dt} (q : Q (.int xs.length) d) : DC K b (rLen K) [.tup xs] d Q := fun F σ H R vs r P kk => by
  obtain ⟨v, e, rv⟩ := one_of r
  simp only [Rel] at rv
  obtain ⟨p, us, e2, h1, h2⟩ := rv
  subst e; subst e2
  exact ⟨_, us.length, rfl, .inr ⟨us, sqt_mono R.sub h1, rfl⟩, kk _ H F (.int xs.length) d (Same.refl F) R (by rw [h2.len]; exact relInt) q⟩
theorem dc_lenL {xs : List Dt} (q : Q (.int xs.length) d) : DC K b (rLen K) [.lst xs] d Q := fun F σ H R vs r P kk => by
  obtain ⟨v, e, rv⟩ := one_of r
  simp only [Rel] at rv
  obtain ⟨p, us, e2, h1, h2⟩ := rv
  subst e; subst e2
  exact ⟨_, us.length, rfl, .inl ⟨us, R.sub.seq h1, rfl⟩, kk _ H F (.int xs.length) d (Same.refl F) R (by rw [h2.len]; exact relInt) q⟩
theorem dc_lenO {a : Addr} {xs : List Dt} (ho : d.own a = some (.lst xs)) (q : Q (.int xs.length) d) : DC K b (rLen K) [.ptr a] d Q := fun F σ H R vs r P kk => by
  obtain ⟨v, e, rv⟩ := one_of r
  have rv : v = .ref a := by simpa only [Rel] using rv
  subst e; subst rv
  obtain ⟨_, _, us, h1, h2⟩ := R.own a _ ho
  exact ⟨_, us.length, rfl, .inl ⟨us, SqL.of h1, rfl⟩, kk _ H F (.int xs.length) d (Same.refl F) R (by rw [h2.len]; exact relInt) q⟩
/-! ### ints -/
def rAbs : List V → Hp → VK → Prop := fun xs H Q => ∃ i, xs = [.int i] ∧ Q (.int (if i < 0 then -i else i)) H
theorem call_abs' {X : Cx} : CallR X (.builtin "abs") rAbs := call_abs
theorem dc_abs (q : Q (.int (if i < 0 then -i else i)) d) : DC K b rAbs [.int i] d Q := fun F σ H R vs r P kk => by
  obtain ⟨v, e, rv⟩ := one_of r
  simp only [Rel] at rv
  subst e; subst rv
  exact ⟨i, rfl, kk _ H F _ d (Same.refl F) R relInt q⟩
def rMax2 : List V → Hp → VK → Prop := fun xs H Q => ∃ i j, xs = [.int i, .int j] ∧ Q (.int (if j > i then j else i)) H
theorem call_max2' {X : Cx} (hc : X.calm = true) : CallR X (.builtin "max") rMax2 := call_max2 hc
def rMin2 : List V → Hp → VK → Prop := fun xs H Q => ∃ i j, xs = [.int i, .int j] ∧ Q (.int (if j < i then j else i)) H
theorem call_min2' {X : Cx} (hc : X.calm = true) : CallR X (.builtin "min") rMin2 := call_min2 hc
theorem dc_max2 (q : Q (.int (if j > i then j else i)) d) : DC K b rMax2 [.int i, .int j] d Q := fun F σ H R vs r P kk => by
  obtain ⟨v, w, e, rv, rw'⟩ := two_of r
  simp only [Rel] at rv rw'
  subst e; subst rv; subst rw'
  exact ⟨i, j, rfl, kk _ H F _ d (Same.refl F) R relInt q⟩
theorem dc_min2 (q : Q (.int (if j < i then j else i)) d) : DC K b rMin2 [.int i, .int j] d Q := fun F σ H R vs r P kk => by
  obtain ⟨v, w, e, rv, rw'⟩ := two_of r
  simp only [Rel] at rv rw'
  subst e; subst rv; subst rw'
  exact ⟨i, j, rfl, kk _ H F _ d (Same.refl F) R relInt q⟩
def rInt1 : List V → Hp → VK → Prop := fun xs H Q => (∃ i, xs = [.int i] ∧ Q (.int i) H) ∨ ∃ k, xs = [.bl k] ∧ Q (.int (if k then 1 else 0)) H
theorem call_int1' {X : Cx} : CallR X (.type "int") rInt1 := call_int1
theorem dc_int (q : Q (.int i) d) : DC K b rInt1 [.int i] d Q := fun F σ H R vs r P kk => by
  obtain ⟨v, e, rv⟩ := one_of r
  simp only [Rel] at rv
  subst e; subst rv
  exact .inl ⟨i, rfl, kk _ H F _ d (Same.refl F) R relInt q⟩
def rDivmod : List V → Hp → VK → Prop := fun xs H Q => ∃ i j, xs = [.int i, .int j] ∧ CDivP i j ∧ ∀ p, H p = none → Q (.ref p) (upd H p (.tup [.int (i / j), .int (i % j)]))
theorem call_divmod' {X : Cx} : CallR X (.builtin "divmod") rDivmod := call_divmodW
theorem dc_divmod (hj : CDivP i j) (q : Q (.tup [.int (i / j), .int (i % j)]) d) : DC K b rDivmod [.int i, .int j] d Q := fun F σ H R vs r P kk => by
  obtain ⟨v, w, e, rv, rw'⟩ := two_of r
  simp only [Rel] at rv rw'
  subst e; subst rv; subst rw'
  refine ⟨i, j, rfl, hj, fun p hp => ?_⟩
  obtain ⟨e, R'⟩ := R.frz hp (.tup [.int (i / j), .int (i % j)]) (fun _ z => nomatch z)
  exact kk _ _ _ _ d e R' (relTup (.inl (.inl upd_same)) (.cons relInt (.cons relInt .nil))) q
/-! ### lists of ints, of truth values -/
theorem dc_sumL {ns : List Int} (q : Q (.int ns.sum) d) : DC K b (rSum K) [.lst (ns.map Dt.int)] d Q := fun F σ H R vs r P kk => by
  obtain ⟨v, e, rv⟩ := one_of r
  simp only [Rel] at rv
  obtain ⟨p, us, e2, h1, h2⟩ := rv
  subst e; subst e2
  rw [relL_ints h2] at h1
  exact ⟨p, ns, rfl, R.sub.seq h1, kk _ H F _ d (Same.refl F) R relInt q⟩
theorem dc_sumO {a : Addr} {ns : List Int} (ho : d.own a = some (.lst (ns.map Dt.int))) (q : Q (.int ns.sum) d) : DC K b (rSum K) [.ptr a] d Q := fun F σ H R vs r P kk => by
  obtain ⟨v, e, rv⟩ := one_of r
  have rv : v = .ref a := by simpa only [Rel] using rv
  subst e; subst rv
  obtain ⟨_, _, us, h1, h2⟩ := R.own a _ ho
  rw [relL_ints h2] at h1
  exact ⟨a, ns, rfl, SqL.of h1, kk _ H F _ d (Same.refl F) R relInt q⟩
theorem dc_maxL {ns : List Int} (hn : 0 < ns.length) (q : ∀ m, m ∈ ns → (∀ y, y ∈ ns → y ≤ m) → Q (.int m) d) : DC K b (rMax K) [.lst (ns.map Dt.int)] d Q := fun F σ H R vs r P kk => by
  obtain ⟨v, e, rv⟩ := one_of r
  simp only [Rel] at rv
  obtain ⟨p, us, e2, h1, h2⟩ := rv
  subst e; subst e2
  rw [relL_ints h2] at h1
  exact ⟨p, ns, rfl, R.sub.seq h1, hn, fun m m1 m2 => kk _ H F _ d (Same.refl F) R relInt (q m m1 m2)⟩
theorem dc_all {ns : List Bool} (q : Q (.bl (ns.all id)) d) : DC K b (rAll K) [.lst (ns.map Dt.bl)] d Q := fun F σ H R vs r P kk => by
  obtain ⟨v, e, rv⟩ := one_of r
  simp only [Rel] at rv
  obtain ⟨p, us, e2, h1, h2⟩ := rv
  subst e; subst e2
  rw [relL_bls h2] at h1
  exact ⟨p, ns, rfl, R.sub.seq h1, kk _ H F _ d (Same.refl F) R relBl q⟩
theorem dc_any {ns : List Bool} (q : Q (.bl (ns.any id)) d) : DC K b (rAny K) [.lst (ns.map Dt.bl)] d Q := fun F σ H R vs r P kk => by
  obtain ⟨v, e, rv⟩ := one_of r
  simp only [Rel] at rv
  obtain ⟨p, us, e2, h1, h2⟩ := rv
  subst e; subst e2
  rw [relL_bls h2] at h1
  exact ⟨p, ns, rfl, R.sub.seq h1, kk _ H F _ d (Same.refl F) R relBl q⟩
/-! ### tuple(..), list(range(..)) -/
def rTupleOf (K : PySem.W.Frag) : List V → Hp → VK → Prop := fun xs H Q => ∃ p ys, xs = [.ref p] ∧ ((SqL K H p ys ∧ ∀ l, H l = none → Q (.ref l) (upd H l (.tup ys))) ∨ (SqT K H p ys ∧ Q (.ref p) H))
theorem call_tuple_of' {X : Cx} : CallR X (.type "tuple") (rTupleOf X.K) := call_tuple_of
theorem dc_tupL {xs : List Dt} (q : Q (.tup xs) d) : DC K b (rTupleOf K) [.lst xs] d Q := fun F σ H R vs r P kk => by
  obtain ⟨v, e, rv⟩ := one_of r
  simp only [Rel] at rv
  obtain ⟨p, us, e2, h1, h2⟩ := rv
  subst e; subst e2
  refine ⟨p, us, rfl, .inl ⟨R.sub.seq h1, fun l hl => ?_⟩⟩
  obtain ⟨e, R'⟩ := R.frz hl (.tup us) (fun _ z => nomatch z)
  exact kk _ _ _ _ d e R' (relTup (.inl (.inl upd_same)) (h2.mono e)) q
theorem dc_tupO {a : Addr} {xs : List Dt} (ho : d.own a = some (.lst xs)) (q : Q (.tup xs) d) : DC K b (rTupleOf K) [.ptr a] d Q := fun F σ H R vs r P kk => by
  obtain ⟨v, e, rv⟩ := one_of r
  have rv : v = .ref a := by simpa only [Rel] using rv
  subst e; subst rv
  obtain ⟨_, _, us, h1, h2⟩ := R.own a _ ho
  refine ⟨a, us, rfl, .inl ⟨SqL.of h1, fun l hl => ?_⟩⟩
  obtain ⟨e, R'⟩ := R.frz hl (.tup us) (fun _ z => nomatch z)
  exact kk _ _ _ _ d e R' (relTup (.inl (.inl upd_same)) (h2.mono e)) q
theorem relL_rg {F : Hp} (m n : Int) : RelL K F (rangeD m (n - m).toNat) (rgV m n) := by
  unfold rangeD rgV
  generalize (n - m).toNat = k
  generalize List.range k = l
  induction l with
  | nil => exact .nil
  | cons x l ih => exact .cons relInt ih
/-- list(range(..)), an owned list -/
theorem de_listRg1 (h : DE K b ta d fun x d1 => ∃ n : Int, x = .int n ∧ 0 ≤ n ∧ n ≤ 1000000 ∧ ∀ p, d1.own p = none → Q (.ptr p) ⟨d1.sl, d1.own.put p (.lst (rangeD 0 n.toNat))⟩) : DE K b (tLstRg (tRg1 ta)) d Q := fun F σ H R P kk =>
  h F σ H R _ fun v H1 F1 x d1 s1 R1 r1 ⟨n, e, h0, h1, q⟩ => by
    subst e
    refine ⟨n, by simpa only [Rel] using r1, RgOk.of_le (by omega) (by omega) (by omega) h0, fun p hp => ?_⟩
    have rr := relL_rg (K := K) (F := F1) 0 n
    rw [show n - 0 = n by omega] at rr
    exact kk (.ref p) _ F1 (.ptr p) _ s1 (R1.owned hp (x := .lst (rangeD 0 n.toNat)) ⟨_, upd_same, rr⟩) relPtr (q p (own_none R1 hp))
theorem de_listRg2 (h : DE K b ta d fun x d1 => DE K b tb d1 fun y d2 => ∃ m n : Int, x = .int m ∧ y = .int n ∧ 0 ≤ m ∧ m ≤ 1000000 ∧ 0 ≤ n ∧ n ≤ 1000000 ∧ ∀ p, d2.own p = none → Q (.ptr p) ⟨d2.sl, d2.own.put p (.lst (rangeD m (n - m).toNat))⟩) : DE K b (tLstRg (tRg2 ta tb)) d Q := fun F σ H R P kk =>
  h F σ H R _ fun v H1 F1 x d1 s1 R1 r1 q => q F1 σ H1 R1 _ fun w H2 F2 y d2 s2 R2 r2 ⟨m, n, e, e', m0, m1, n0, n1, q2⟩ => by
    subst e; subst e'
    refine ⟨m, n, by simpa only [Rel] using r1, by simpa only [Rel] using r2, RgOk.of_le m0 (by omega) (by omega) n0, fun p hp => ?_⟩
    exact kk (.ref p) _ F2 (.ptr p) _ (s1.trans s2) (R2.owned hp (x := .lst (rangeD m (n - m).toNat)) ⟨_, upd_same, relL_rg m n⟩) relPtr (q2 p (own_none R2 hp))
/-! ### slices -/
theorem do_no {QO : Option Int → St → Prop} (q : QO none d) : DO K b tNoPart d QO := fun F σ H R P kk => kk none H F d (Same.refl F) R q
theorem do_some {QO : Option Int → St → Prop} (h : DE K b te d fun x d1 => ∃ i, x = .int i ∧ QO (some i) d1) : DO K b (tPart te) d QO := fun F σ H R P kk =>
  h F σ H R _ fun v H1 F1 x d1 s1 R1 r1 ⟨i, e, q⟩ => by
    subst e
    exact ⟨i, by simpa only [Rel] using r1, kk (some i) H1 F1 d1 s1 R1 q⟩
def cutD (xs : List Dt) (lo hi : Option Int) : List Dt := (xs.drop (HT.sIx xs.length 0 lo)).take (HT.sIx xs.length xs.length hi - HT.sIx xs.length 0 lo)
theorem cut_rel {F : Hp} {xs : List Dt} {us : List V} {lo hi : Option Int} (h : RelL K F xs us) : RelL K F (cutD xs lo hi) (cutV us lo hi) := by
  unfold cutD cutV
  rw [h.len]
  exact (h.drop _).take _
theorem de_slT {tl th : TO} (h : DE K b te d fun x d1 => DO K b tl d1 fun lo d2 => DO K b th d2 fun hi d3 => ∃ xs, x = .tup xs ∧ ¬ (HT.sIx xs.length 0 lo = 0 ∧ HT.sIx xs.length xs.length hi = xs.length) ∧ Q (.tup (cutD xs lo hi)) d3) : DE K b (tSl (rSlT K) te tl th) d Q := fun F σ H R P kk =>
  h F σ H R _ fun v H1 F1 x d1 s1 R1 r1 q => q F1 σ H1 R1 _ fun lo H2 F2 d2 s2 R2 q => q F2 σ H2 R2 _ fun hi H3 F3 d3 s3 R3 ⟨xs, e, hw, q2⟩ => by
    subst e
    simp only [Rel] at r1
    obtain ⟨p, us, e2, h1, h2⟩ := r1
    have sa := s2.trans s3
    refine ⟨p, us, e2, sqt_mono R3.sub (sqt_mono sa h1), by rw [h2.len]; exact hw, fun l hl => ?_⟩
    obtain ⟨e, R'⟩ := R3.frz hl (.tup (cutV us lo hi)) (fun _ z => nomatch z)
    exact kk _ _ _ _ d3 ((s1.trans sa).trans e) R' (relTup (.inl (.inl upd_same)) (cut_rel (h2.mono (sa.trans e)))) q2
theorem de_slL {tl th : TO} (h : DE K b te d fun x d1 => DO K b tl d1 fun lo d2 => DO K b th d2 fun hi d3 => ∃ xs, x = .lst xs ∧ Q (.lst (cutD xs lo hi)) d3) : DE K b (tSl (rSlL K) te tl th) d Q := fun F σ H R P kk =>
  h F σ H R _ fun v H1 F1 x d1 s1 R1 r1 q => q F1 σ H1 R1 _ fun lo H2 F2 d2 s2 R2 q => q F2 σ H2 R2 _ fun hi H3 F3 d3 s3 R3 ⟨xs, e, q2⟩ => by
    subst e
    simp only [Rel] at r1
    obtain ⟨p, us, e2, h1, h2⟩ := r1
    have sa := s2.trans s3
    refine ⟨p, us, e2, R3.sub.seq (sa.seq h1), fun l hl => ?_⟩
    obtain ⟨e, R'⟩ := R3.frz hl (.lst (cutV us lo hi)) (fun _ z => nomatch z)
    exact kk _ _ _ _ d3 ((s1.trans sa).trans e) R' (relLst (.inl (.inl upd_same)) (cut_rel (h2.mono (sa.trans e)))) q2
/-- a slice of a frozen list, owned -/
theorem de_slLO {tl th : TO} (h : DE K b te d fun x d1 => DO K b tl d1 fun lo d2 => DO K b th d2 fun hi d3 => ∃ xs, x = .lst xs ∧ ∀ p, d3.own p = none → Q (.ptr p) ⟨d3.sl, d3.own.put p (.lst (cutD xs lo hi))⟩) : DE K b (tSl (rSlL K) te tl th) d Q := fun F σ H R P kk =>
  h F σ H R _ fun v H1 F1 x d1 s1 R1 r1 q => q F1 σ H1 R1 _ fun lo H2 F2 d2 s2 R2 q => q F2 σ H2 R2 _ fun hi H3 F3 d3 s3 R3 ⟨xs, e, q2⟩ => by
    subst e
    simp only [Rel] at r1
    obtain ⟨p, us, e2, h1, h2⟩ := r1
    have sa := s2.trans s3
    refine ⟨p, us, e2, R3.sub.seq (sa.seq h1), fun l hl => ?_⟩
    exact kk _ _ F3 _ _ (s1.trans sa) (R3.owned hl (x := .lst (cutD xs lo hi)) ⟨_, upd_same, cut_rel (h2.mono sa)⟩) relPtr (q2 l (own_none R3 hl))
/-! ### membership: an int among ints, a text among texts -/
theorem inV_int (i : Int) : ∀ ns : List Int, inV (.int i) (ns.map V.int) = decide (i ∈ ns)
  | [] => by simp [inV]
  | n :: ns => by
    have ih := inV_int i ns
    unfold inV at ih ⊢
    rw [List.map_cons, List.any_cons, ih]
    by_cases e : i = n
    · subst e; simp [eqV]
    · have : eqV (V.int n) (V.int i) = false := by simp [eqV]; omega
      simp [this, e]
theorem flat_ints (ns : List Int) : (ns.map V.int).all flatV = true := by simp [flatV]
theorem dr_inI {ns : List Int} (q : Q (.bl (decide (i ∈ ns))) d) : DR K b (rIn K false) (.int i) (.tup (ns.map Dt.int)) d Q := fun F σ H R vx vy h1 h2 P kk => by
  simp only [Rel] at h1 h2
  obtain ⟨p, us, e2, h3, h4⟩ := h2
  subst h1; subst e2
  rw [relL_ints h4] at h3
  refine ⟨p, _, rfl, .inr (sqt_mono R.sub h3), rfl, flat_ints ns, ?_⟩
  rw [inV_int]
  exact kk _ H F _ d (Same.refl F) R relBl q
/-! ### `[x] * n` -/
theorem rel_rep {F : Hp} {xs : List Dt} {us : List V} (h : RelL K F xs us) : ∀ m, RelL K F (List.replicate m xs).flatten (List.replicate m us).flatten
  | 0 => .nil
  | m + 1 => by
    rw [List.replicate_succ, List.replicate_succ, List.flatten_cons, List.flatten_cons]
    exact h.append (rel_rep h m)
theorem dr_rep {a : Addr} {xs : List Dt} {n : Int} (ho : d.own a = some (.lst xs)) (h0 : 0 ≤ n) (h1 : xs.length * n.toNat ≤ 100000) (hn : n ≤ 100000) (q : ∀ p, d.own p = none → Q (.ptr p) ⟨d.sl, d.own.put p (.lst (List.replicate n.toNat xs).flatten)⟩) : DR K b rRep (.ptr a) (.int n) d Q := fun F σ H R vx vy r1 r2 P kk => by
  simp only [Rel] at r1 r2
  subst r1; subst r2
  obtain ⟨_, _, us, h5, h6⟩ := R.own a _ ho
  refine ⟨a, n, us, rfl, rfl, h5, by omega, by omega, Nat.le_trans (by rw [h6.len]; exact h1) (by decide), fun p hp => ?_⟩
  refine kk (.ref p) _ F (.ptr p) _ (Same.refl F) (R.owned hp (x := .lst (List.replicate n.toNat xs).flatten) ⟨_, upd_same, ?_⟩) relPtr (q p (own_none R hp))
  exact rel_rep h6 _
end
end DL
/-! DRul5 -/
set_option Elab.async false
set_option linter.all false
set_option maxRecDepth 100000
/-! The data layer: small forms. -/
namespace DL
open PySem PySem.Spec PyProof.Rows L2 RZ
section
variable {K : PySem.W.Frag} {b : Bs} {d : St} {Q : Dt → St → Prop} {QB : Bool → St → Prop} {ta tb te tc : TE} {tt tu : TT} {x y : Dt} {i j l : Nat} {E : En}
theorem dx_par' (h : DE K b ta d fun x d1 => DE K b tb d1 fun y d2 => E.nx ⟨(d2.sl.set i (some x)).set j (some y), d2.own⟩) : DX K b (tPar i j (tCons ta (tCons tb tNil))) d E :=
  dx_par (da_cons fun F σ H R P kk => h F σ H R P fun v H1 F1 x d1 s1 R1 r1 q => kk v H1 F1 x d1 s1 R1 r1 (da_cons fun F σ H R P kk => q F σ H R P fun v H1 F1 y d2 s1 R1 r1 q => kk v H1 F1 y d2 s1 R1 r1 (da_nil ⟨x, y, rfl, q⟩)))
theorem dx_par3' (h : DE K b ta d fun x d1 => DE K b tb d1 fun y d2 => DE K b tc d2 fun z d3 => E.nx ⟨((d3.sl.set i (some x)).set j (some y)).set l (some z), d3.own⟩) : DX K b (tPar3 i j l (tCons ta (tCons tb (tCons tc tNil)))) d E :=
  dx_par3 (da_cons fun F σ H R P kk => h F σ H R P fun v H1 F1 x d1 s1 R1 r1 q => kk v H1 F1 x d1 s1 R1 r1 (da_cons fun F σ H R P kk => q F σ H R P fun v H1 F1 y d2 s1 R1 r1 q => kk v H1 F1 y d2 s1 R1 r1
    (da_cons fun F σ H R P kk => q F σ H R P fun v H1 F1 z d3 s1 R1 r1 q => kk v H1 F1 z d3 s1 R1 r1 (da_nil ⟨x, y, z, rfl, q⟩))))
theorem len_ok {xs : List Dt} {P : Prop} (h : Nat.ble xs.length 100000 = true) (p : P) : xs.length ≤ 100000 ∧ P := ⟨Nat.le_of_ble_eq_true h, p⟩
theorem iteT' {c : Bool} {A B : Prop} (h : c = true) (p : A) : if c = true then A else B := by rw [if_pos h]; exact p
theorem iteF' {c : Bool} {A B : Prop} (h : c = false) (p : B) : if c = true then A else B := by rw [if_neg (by rw [h]; decide)]; exact p
theorem ex_bl {P : Bool → Prop} {c : Bool} (h : P c) : ∃ c', Dt.bl c = Dt.bl c' ∧ P c' := ⟨c, rfl, h⟩
theorem ex_int {P : Int → Prop} {c : Int} (h : P c) : ∃ c', Dt.int c = Dt.int c' ∧ P c' := ⟨c, rfl, h⟩
/-- isinstance(x, T), one class: by what is known of x -/
theorem dc_isi {c : Dt} {t u : Value} {r : Bool} (hx : ∀ F H v, Same F H → Rel K F x v → TyX K H v t) (hc : ∀ F v, Rel K F c v → ClsV v u) (hk : PySem.W.kitOne K t u = some r) (q : Q (.bl r) d) : DC K b (rIsi K) [x, c] d Q := fun F σ H R vs rr P kk => by
  obtain ⟨v, w, e, h1, h2⟩ := two_of rr
  subst e
  exact ⟨v, w, t, u, r, rfl, hc F w h2, hx F H v R.sub h1, hk, kk _ H F _ d (Same.refl F) R relBl q⟩
theorem cls_ty {n : String} : ∀ (F : Hp) (v : V), Rel K F (.ty n) v → ClsV v (.type n) := fun F v h => by
  have h : v = .ty n := by simpa only [Rel] using h
  subst h; exact .ty n
theorem cls_own {C : Addr} : ∀ (F : Hp) (v : V), Rel K F (.ptr C) v → ClsV v (.ref C) := fun F v h => by
  have h : v = .ref C := by simpa only [Rel] using h
  subst h; exact .own C
theorem tyx_int {i : Int} : ∀ (F H : Hp) (v : V), Same F H → Rel K F (.int i) v → TyX K H v (.type "int") := fun F H v _ h => by
  have h : v = .int i := by simpa only [Rel] using h
  subst h; exact .base (.int i)
theorem tyx_non : ∀ (F H : Hp) (v : V), Same F H → Rel K F .non v → TyX K H v (.type "NoneType") := fun F H v _ h => by
  have h : v = .non := by simpa only [Rel] using h
  subst h; exact .base .non
theorem tyx_str {z : Str} : ∀ (F H : Hp) (v : V), Same F H → Rel K F (.str z) v → TyX K H v (.type "str") := fun F H v _ h => by
  have h : v = .str z := by simpa only [Rel] using h
  subst h; exact .base (.str z)
theorem tyx_tup {xs : List Dt} : ∀ (F H : Hp) (v : V), Same F H → Rel K F (.tup xs) v → TyX K H v (.type "tuple") := fun F H v s h => by
  simp only [Rel] at h
  obtain ⟨p, vs, e, h1, _⟩ := h
  subst e
  rcases sqt_mono s h1 with (h | ⟨o, h⟩) | ⟨o, its, n, hk, hc, _⟩
  · exact .base (.tup h)
  · exact .fTuple h
  · exact .kTuple hk hc
theorem isi_int (q : Q (.bl true) d) {i : Int} : DC K b (rIsi K) [.int i, .ty "int"] d Q := dc_isi tyx_int cls_ty (kit_ty (by decide +kernel)) q
theorem isi_intB (q : Q (.bl false) d) {i : Int} : DC K b (rIsi K) [.int i, .ty "bool"] d Q := dc_isi tyx_int cls_ty (kit_ty (by decide +kernel)) q
theorem isi_tup (q : Q (.bl true) d) {xs : List Dt} : DC K b (rIsi K) [.tup xs, .ty "tuple"] d Q := dc_isi tyx_tup cls_ty (kit_ty (by decide +kernel)) q
theorem isi_tupS (q : Q (.bl false) d) {xs : List Dt} : DC K b (rIsi K) [.tup xs, .ty "str"] d Q := dc_isi tyx_tup cls_ty (kit_ty (by decide +kernel)) q
theorem isi_str (q : Q (.bl true) d) {z : Str} : DC K b (rIsi K) [.str z, .ty "str"] d Q := dc_isi tyx_str cls_ty (kit_ty (by decide +kernel)) q
/-- a chain of two comparisons of ints -/
theorem de_chain {f g : Int → Int → Bool} (h : DE K b ta d fun x d1 => DE K b tb d1 fun y d2 => ∃ i j, x = .int i ∧ y = .int j ∧ if f i j = true then DE K b tc d2 fun z d3 => ∃ k, z = .int k ∧ Q (.bl (g j k)) d3 else Q (.bl false) d2) :
    DE K b (tChain (rI0 fun i j => .bl (f i j)) (rI0 fun i j => .bl (g i j)) ta tb tc) d Q := fun F σ H R P kk =>
  h F σ H R _ fun v1 H1 F1 x d1 s1 R1 r1 q1 => q1 F1 σ H1 R1 _ fun v2 H2 F2 y d2 s2 R2 r2 ⟨i, j, e1, e2, q2⟩ => by
    subst e1; subst e2
    refine ⟨i, j, by simpa only [Rel] using r1, by simpa only [Rel] using r2, f i j, rfl, ?_⟩
    cases hf : f i j with
    | false =>
      rw [hf] at q2
      exact kk (.bl false) H2 F2 (.bl false) d2 (s1.trans s2) R2 relBl q2
    | true =>
      rw [hf] at q2
      refine (show DE K b tc d2 _ from q2) F2 σ H2 R2 _ fun v3 H3 F3 z d3 s3 R3 r3 ⟨k, e3, q3⟩ => ?_
      subst e3
      exact ⟨j, k, by simpa only [Rel] using r2, by simpa only [Rel] using r3, kk (.bl (g j k)) H3 F3 (.bl (g j k)) d3 ((s1.trans s2).trans s3) R3 relBl q3⟩
theorem dt_chain {f g : Int → Int → Bool} (h : DE K b ta d fun x d1 => DE K b tb d1 fun y d2 => ∃ i j, x = .int i ∧ y = .int j ∧ if f i j = true then DE K b tc d2 fun z d3 => ∃ k, z = .int k ∧ QB (g j k) d3 else QB false d2) :
    DT K b (tTest (tChain (rI0 fun i j => .bl (f i j)) (rI0 fun i j => .bl (g i j)) ta tb tc)) d QB := dt_test (de_chain fun F σ H R P kk => h F σ H R P fun v H1 F1 x d1 s1 R1 r1 q1 => kk v H1 F1 x d1 s1 R1 r1 fun F σ H R P kk => q1 F σ H R P fun v H1 F1 y d2 s1 R1 r1 ⟨i, j, e1, e2, q2⟩ => kk v H1 F1 y d2 s1 R1 r1 ⟨i, j, e1, e2, by
    cases hf : f i j with
    | false => rw [hf] at q2; exact ⟨false, rfl, q2⟩
    | true =>
      rw [hf] at q2
      exact fun F σ H R P kk => (show DE K b tc d2 _ from q2) F σ H R P fun v H1 F1 z d3 s1 R1 r1 ⟨k, e, q⟩ => kk v H1 F1 z d3 s1 R1 r1 ⟨k, e, ⟨_, rfl, q⟩⟩⟩)
end
end DL
/-! DTxt -/
set_option Elab.async false
set_option linter.all false
set_option maxRecDepth 100000
/-! The text: its defs by their places, their promises as callers take them. -/
namespace Cab
open PySem PySem.Spec PyProof.Rows L2 DL
def topS (i : Nat) : Stmt := PySem.Challenge.pw_cabshares_k34_whole_mixtures_of_tables.main.body.getD i (.Pass ⟨0, 0, 0, 0⟩)
/-- the def at place i of the top, called x -/
abbrev FnG (K : PySem.W.Frag) (x : Str) (i : Nat) : Prop := ∃ fd, FunD K x x (defArgs (topS i)) (defBody (topS i)) (defScope (topS i)) [] [] (He.ga K x) fd
abbrev FnGD (K : PySem.W.Frag) (x : Str) (i : Nat) : Prop := ∃ fd dv, FunD K x x (defArgs (topS i)) (defBody (topS i)) (defScope (topS i)) [dv] [] (He.ga K x) fd
abbrev FnM (K : PySem.W.Frag) (C m : Str) (q : Str) (i j : Nat) : Prop := ∃ fd, FunD K m q (defArgs (inClass (topS i) j)) (defBody (inClass (topS i) j)) (defScope (inClass (topS i) j)) [] [] (He.ma K (He.ga K C) m) fd
/-- what a caller of the module's name x wants -/
def Cal (P : Program) (w : World) (K : PySem.W.Frag) (mg : Str → Option Value) (base : Heap) (k : Nat) (x : Str) (ps : List Str) (sp : Sp) : Prop :=
  ∃ f fd, FnOk P w K mg base CX0 k f fd ps sp ∧ mg x = some (.ref f) ∧ PySem.W.keepIn K (.ref f) = true ∧ Binds K fd ps []
def fnTab : List (Str × Nat) := [(PySem.Str.ofString "is_integer", 25), (PySem.Str.ofString "is_between", 26), (PySem.Str.ofString "common", 27), (PySem.Str.ofString "fraction", 28), (PySem.Str.ofString "is_fraction", 29), (PySem.Str.ofString "plus", 30), (PySem.Str.ofString "times", 31), (PySem.Str.ofString "is_less", 32), (PySem.Str.ofString "check_order", 35), (PySem.Str.ofString "check_costs", 36), (PySem.Str.ofString "is_rider", 37), (PySem.Str.ofString "check_riders", 38), (PySem.Str.ofString "aboard_at", 39), (PySem.Str.ofString "place_of", 40), (PySem.Str.ofString "ranked_at", 41), (PySem.Str.ofString "is_crowded", 42), (PySem.Str.ofString "check_stretch", 44), (PySem.Str.ofString "check_ride", 45), (PySem.Str.ofString "check_rider", 46), (PySem.Str.ofString "places", 49), (PySem.Str.ofString "place_in_row", 50), (PySem.Str.ofString "form_of", 51), (PySem.Str.ofString "fare_form", 52), (PySem.Str.ofString "joined", 53), (PySem.Str.ofString "corners", 54), (PySem.Str.ofString "variables", 56), (PySem.Str.ofString "row_of", 57), (PySem.Str.ofString "solved", 60), (PySem.Str.ofString "is_row", 62), (PySem.Str.ofString "check_table", 63), (PySem.Str.ofString "lasting_clauses", 64), (PySem.Str.ofString "halved_clauses", 65), (PySem.Str.ofString "is_clause", 67), (PySem.Str.ofString "is_custom", 68), (PySem.Str.ofString "check_custom", 69), (PySem.Str.ofString "clauses_of", 70), (PySem.Str.ofString "clause_form", 71), (PySem.Str.ofString "is_amounts", 72), (PySem.Str.ofString "is_receipt", 73), (PySem.Str.ofString "check_receipts", 74), (PySem.Str.ofString "room_forms", 75), (PySem.Str.ofString "worth", 76), (PySem.Str.ofString "keeps", 77), (PySem.Str.ofString "fares_of", 78), (PySem.Str.ofString "fares", 79), (PySem.Str.ofString "check_known", 80), (PySem.Str.ofString "fits", 81), (PySem.Str.ofString "nothing", 83), (PySem.Str.ofString "answer_for", 84), (PySem.Str.ofString "least_and_greatest", 85), (PySem.Str.ofString "any_table", 86), (PySem.Str.ofString "check_fare", 87), (PySem.Str.ofString "told_receipts", 91), (PySem.Str.ofString "none_fits", 92), (PySem.Str.ofString "_law_jug", 95), (PySem.Str.ofString "_law_drop", 96), (PySem.Str.ofString "_law_one", 97), (PySem.Str.ofString "_law_low", 98), (PySem.Str.ofString "_law_add", 99), (PySem.Str.ofString "_law_under", 100), (PySem.Str.ofString "_law_crowd", 101), (PySem.Str.ofString "_law_trip", 102), (PySem.Str.ofString "_law_cab_trip", 103), (PySem.Str.ofString "_law_seats", 104), (PySem.Str.ofString "_law_row", 105), (PySem.Str.ofString "_law_shares", 106), (PySem.Str.ofString "_law_fares", 107), (PySem.Str.ofString "_law_rules", 108), (PySem.Str.ofString "_law_slips", 109), (PySem.Str.ofString "_law_receipts", 110), (PySem.Str.ofString "_law_between", 111), (PySem.Str.ofString "_law_blend", 112), (PySem.Str.ofString "_law_right", 113), (PySem.Str.ofString "law", 114)]
/-- the defs with a default, of their last parameter -/
def fdTab : List (Str × Nat) := [(PySem.Str.ofString "least_fare", 88), (PySem.Str.ofString "greatest_fare", 89), (PySem.Str.ofString "certify_reached", 93)]
def meTab : List (Str × Str × Str × Nat × Nat) := [(PySem.Str.ofString "Ride", PySem.Str.ofString "__init__", PySem.Str.ofString "Ride.__init__", 43, 0), (PySem.Str.ofString "Ride", PySem.Str.ofString "__len__", PySem.Str.ofString "Ride.__len__", 43, 3), (PySem.Str.ofString "Board", PySem.Str.ofString "__init__", PySem.Str.ofString "Board.__init__", 58, 0), (PySem.Str.ofString "Board", PySem.Str.ofString "exchange", PySem.Str.ofString "Board.exchange", 58, 1), (PySem.Str.ofString "Board", PySem.Str.ofString "change_row", PySem.Str.ofString "Board.change_row", 58, 2), (PySem.Str.ofString "Board", PySem.Str.ofString "lacking", PySem.Str.ofString "Board.lacking", 58, 3), (PySem.Str.ofString "Board", PySem.Str.ofString "first_below", PySem.Str.ofString "Board.first_below", 58, 4), (PySem.Str.ofString "Board", PySem.Str.ofString "settle", PySem.Str.ofString "Board.settle", 58, 5), (PySem.Str.ofString "Board", PySem.Str.ofString "tightest", PySem.Str.ofString "Board.tightest", 58, 6), (PySem.Str.ofString "Board", PySem.Str.ofString "is_earlier", PySem.Str.ofString "Board.is_earlier", 58, 7), (PySem.Str.ofString "Board", PySem.Str.ofString "climb", PySem.Str.ofString "Board.climb", 58, 8), (PySem.Str.ofString "Board", PySem.Str.ofString "numbers_in", PySem.Str.ofString "Board.numbers_in", 58, 9), (PySem.Str.ofString "Board", PySem.Str.ofString "mixture", PySem.Str.ofString "Board.mixture", 58, 10), (PySem.Str.ofString "Board", PySem.Str.ofString "table", PySem.Str.ofString "Board.table", 58, 11), (PySem.Str.ofString "Answer", PySem.Str.ofString "__init__", PySem.Str.ofString "Answer.__init__", 59, 0)]
--  77 15

def freeTab : List Str := ["abs", "len", "isinstance", "min", "max", "sum", "any", "all", "sorted", "divmod", "int", "tuple", "list", "str", "bool", "range", "enumerate", "zip"]
def intTab : List (Str × Int) := [("MOST_STRETCHES", 12), ("MOST_COST", 1000000), ("MOST_RIDERS", 6), ("MOST_ABOARD", 4), ("MOST_BAGS", 9), ("MOST_AMOUNT", 100000000), ("MOST_PLAY", 1000), ("MOST_RECEIPTS", 6), ("MOST_CLAUSES", 12), ("MOST_FACTOR", 100), ("SCALE", 12)]
def noatTab : List (Str × Str) := [("Ride", "costs"), ("Ride", "riders"), ("Ride", "told"), ("Board", "bottom"), ("Board", "above"), ("Board", "rows"), ("Board", "aside"), ("Board", "base"), ("Answer", "greatest"), ("Answer", "best"), ("Answer", "factor"), ("Answer", "numbers")]
/-- the facts of the text: where its names stand -/
structure Txt (K : PySem.W.Frag) (mg : Str → Option Value) (base : Heap) : Prop where
  fn' : ∀ p ∈ fnTab, FnG K p.1 p.2 ∧ mg p.1 = some (.ref (He.ga K p.1))
  fnd' : ∀ p ∈ fdTab, FnGD K p.1 p.2 ∧ mg p.1 = some (.ref (He.ga K p.1))
  rk : LamX.TabB base mg (He.codeOf K (PySem.Str.ofString "ranked_at", none)) (He.tabOf K (He.codeOf K (PySem.Str.ofString "ranked_at", none)))
  me' : ∀ p ∈ meTab, FnM K p.1 p.2.1 p.2.2.1 p.2.2.2.1 p.2.2.2.2 ∧ (p.2.1 ≠ "__init__" → Meth K (He.ga K p.1) p.2.1 (He.ma K (He.ga K p.1) p.2.1))
  free' : ∀ x ∈ freeTab, mg x = none
  gint' : ∀ p ∈ intTab, ∃ t, mg p.1 = some (.int p.2 t)
  cls : ∀ C : Str, C ∈ (["Ride", "Board", "Answer"] : List Str) → Cls K (He.ga K C) ∧ mg C = some (.ref (He.ga K C)) ∧ Mk K (He.ga K C) (He.ma K (He.ga K C) "__init__")
  noat' : ∀ p ∈ noatTab, NoAttr K (He.ga K p.1) p.2
  orders : mg "ORDERS" = some (.ref (He.ga K "ORDERS")) ∧ ∀ H, SqT K H (He.ga K "ORDERS") [.str "number", .str "sat", .str "bags"]
  words : mg "WORDS" = some (.ref (He.ga K "WORDS")) ∧ ∀ H, SqT K H (He.ga K "WORDS") [.str "falling", .str "lasting", .str "halved"]
  isRide : PySem.W.findIn K (.ref (He.ga K "Ride")) "__class__" = some (some (.builtin "object.__class__")) ∧ PySem.W.specialIn K (.builtin "object.__class__") "__get__" = some (some (.builtin "getset_descriptor.__get__")) ∧ PySem.W.takesIn K (.builtin "object.__class__") = some true ∧ PySem.W.mroIn K (He.ga K "Ride") (.type "object") = some true
section
variable {K : PySem.W.Frag} {mg : Str → Option Value} {base : Heap}
theorem Txt.fnd (T : Txt K mg base) (x : Str) (i : Nat) (h : (x, i) ∈ fdTab) : FnGD K x i ∧ mg x = some (.ref (He.ga K x)) := T.fnd' (x, i) h
theorem Txt.fn (T : Txt K mg base) (x : Str) (i : Nat) (h : (x, i) ∈ fnTab) : FnG K x i ∧ mg x = some (.ref (He.ga K x)) := T.fn' (x, i) h
theorem Txt.me (T : Txt K mg base) (C m q : Str) (i j : Nat) (h : (C, m, q, i, j) ∈ meTab) : FnM K C m q i j ∧ (m ≠ "__init__" → Meth K (He.ga K C) m (He.ma K (He.ga K C) m)) := T.me' (C, m, q, i, j) h
theorem Txt.free (T : Txt K mg base) (x : Str) (h : x ∈ freeTab) : mg x = none := T.free' x h
theorem Txt.gint (T : Txt K mg base) (x : Str) (i : Int) (h : (x, i) ∈ intTab) : ∃ t, mg x = some (.int i t) := T.gint' (x, i) h
theorem Txt.noat (T : Txt K mg base) (C f : Str) (h : (C, f) ∈ noatTab) : NoAttr K (He.ga K C) f := T.noat' (C, f) h
end
/-- what a caller of the method m of C wants -/
def CalM (P : Program) (w : World) (K : PySem.W.Frag) (mg : Str → Option Value) (base : Heap) (k : Nat) (C m : Str) (ps : List Str) (sp : Sp) : Prop :=
  ∃ f fd, FnOk P w K mg base CX0 k f fd ps sp ∧ (m ≠ "__init__" → Meth K (He.ga K C) m f) ∧ Cls K (He.ga K C) ∧ Binds K fd ps [] ∧ (m = "__init__" → Mk K (He.ga K C) f ∧ mg C = some (.ref (He.ga K C)))
section
variable {X : Cx} {k : Nat} {x : Str} {p pos : Pos} {e : Expr} {es : List Expr} {ps : List Str} {sp : Sp} {t : TA}
theorem pe_cal (C : Cal X.prog X.w X.K X.mg X.base k x ps sp) (hr : Room k X.A) (hg : Gl X x) (ha : PA X (e :: es) t) (hdb : (x == ("__debug__" : Str)) = false := by decide)
    (he : starEach (e :: es) X.env = (false, eval e X.env) :: starEach es X.env := by rfl) (hpl : (backTo pos (starEach es X.env)).any (·.1) = false := by rfl) : PE X (.Call (.Name x p) (e :: es) [] pos) (tCall sp [] E0 t) := by
  obtain ⟨f, fd, F, hm, hk, hb⟩ := C
  exact pe_call F hr hg hm hk hb .nil pass0 ha hdb he hpl
theorem pe_cal0 (C : Cal X.prog X.w X.K X.mg X.base k x ps sp) (hr : Room k X.A) (hg : Gl X x) (hdb : (x == ("__debug__" : Str)) = false := by decide) : PE X (.Call (.Name x p) [] [] pos) (tCall sp [] E0 tNil) := by
  obtain ⟨f, fd, F, hm, hk, hb⟩ := C
  exact pe_call0 F hr hg hm hk hb .nil pass0 hdb
theorem pe_calM {K : PySem.W.Frag} (hK : X.K = K) {C m : Str} {o : Expr} {apos : Pos} {ta : TE} (Cm : CalM X.prog X.w K X.mg X.base k C m ps sp) (hi : m ≠ "__init__") (hr : Room k X.A) (he : PE X o ta) (ha : PA X (e :: es) t) {pl : Sem Bool}
    (hst : starEach (e :: es) X.env = (false, eval e X.env) :: starEach es X.env := by rfl) (hpl : (backTo pos (starEach es X.env)).any (·.1) = false := by rfl)
    (ht : eval (.Call (.Attribute o m apos) (e :: es) [] pos) X.env = (do
      let ov ← eval o X.env
      standAt apos.atName
      let (f, first) ← holding [ov] (getMethod ov m pl)
      callWith pos f first (backTo pos (starEach (e :: es) X.env)) (backToKw pos (keywordEach [] X.env))) := by rfl) : PE X (.Call (.Attribute o m apos) (e :: es) [] pos) (tMeth (He.ga K C) m sp [] E0 ta t) := by
  subst hK
  obtain ⟨f, fd, F, hm, hc, hb, _⟩ := Cm
  exact pe_meth he hc (hm hi) F hr hb .nil pass0 ha hst hpl ht
theorem pe_calM0 {K : PySem.W.Frag} (hK : X.K = K) {C m : Str} {o : Expr} {apos : Pos} {ta : TE} (Cm : CalM X.prog X.w K X.mg X.base k C m ps sp) (hi : m ≠ "__init__") (hr : Room k X.A) (he : PE X o ta) {pl : Sem Bool}
    (ht : eval (.Call (.Attribute o m apos) [] [] pos) X.env = (do
      let ov ← eval o X.env
      standAt apos.atName
      let (f, first) ← holding [ov] (getMethod ov m pl)
      callWith pos f first (backTo pos (starEach [] X.env)) (backToKw pos (keywordEach [] X.env))) := by rfl) : PE X (.Call (.Attribute o m apos) [] [] pos) (tMeth (He.ga K C) m sp [] E0 ta tNil) := by
  subst hK
  obtain ⟨f, fd, F, hm, hc, hb, _⟩ := Cm
  exact pe_meth0 he hc (hm hi) F hr hb .nil pass0 ht
theorem pe_new {K : PySem.W.Frag} (hK : X.K = K) {C : Str} (Cm : CalM X.prog X.w K X.mg X.base k C "__init__" ps sp) (hr : Room (k + 1) X.A) (hg : Gl X C) (ha : PA X (e :: es) t) (hdb : (C == ("__debug__" : Str)) = false := by decide)
    (he : starEach (e :: es) X.env = (false, eval e X.env) :: starEach es X.env := by rfl) (hpl : (backTo pos (starEach es X.env)).any (·.1) = false := by rfl) : PE X (.Call (.Name C p) (e :: es) [] pos) (tMake (He.ga K C) sp [] E0 t) := by
  subst hK
  obtain ⟨f, fd, F, hm, hc, hb, hi⟩ := Cm
  exact pe_make (hi rfl).1 F hr hg (hi rfl).2 hb .nil pass0 ha hdb he hpl
end
section
variable {X : Cx} {K : PySem.W.Frag} {e o value iter tg : Expr} {f : Str} {pos pos' tpos p : Pos} {ta tv te : TE} {es : List Expr} {t : TA}
theorem pe_ixK (hK : X.K = K) {a c : Expr} {tb : TE} (ha : PE X a ta) (hb : PE X c tb) (hs : PlainIx c := by intro _ _; rfl) : PE X (.Subscript a c pos) (tOp (rIx K) ta tb) := hK ▸ pe_ix ix_seq ha hb hs
theorem pe_fldK (hK : X.K = K) (he : PE X e ta) (hb : attributeBase e f X.env (eval e X.env) = eval e X.env := by rfl) : PE X (.Attribute e f pos) (tFld K ta f) := hK ▸ pe_fld he hb
theorem ps_fldK (hK : X.K = K) (ha : PE X o ta) (hv : PE X value tv) (hs : swapsWith value (some (.Attribute o f pos')) pos.line X.env = pure false := by rfl) : PS X (.Assign [.Attribute o f pos'] value pos) (sFld K ta tv f) := hK ▸ ps_fld ha hv hs
theorem pi_listK (hK : X.K = K) (he : PE X e te) : PI X tg e (iList K te) := hK ▸ pi_list he
theorem pi_tupK (hK : X.K = K) (he : PE X e te) : PI X tg e (iTup K te) := hK ▸ pi_tup he
theorem pg_tupK (hK : X.K = K) {k : Nat} {gs : TGs} {n : Nat} (hc : X.calm = true) (h : PGs X es gs) (hn : (assignEach es X.env).length = n := by rfl) (hst : (assignEach es X.env).findIdx? (·.1) = none := by rfl) : PG X (.Tuple es k pos) (gTup K n gs) := hK ▸ pg_tup hc h hn hst
theorem pe_cbK {id : String} {r : List V → Hp → VK → Prop} {x : Str} (hc : CallR X (.builtin id) r) (hv : bootBuiltins x = some (.builtin id)) (hm : X.mg x = none) (hg : Gl X x) (ha : PA X (e :: es) t) (hn : x ≠ "__name__" := by decide) (hdb : (x == ("__debug__" : Str)) = false := by decide)
    (he : starEach (e :: es) X.env = (false, eval e X.env) :: starEach es X.env := by rfl) (hpl : (backTo pos (starEach es X.env)).any (·.1) = false := by rfl) : PE X (.Call (.Name x p) (e :: es) [] pos) (tCB r t) := pe_callB hc hg hm hv ha hn hdb he hpl
theorem pe_gint {x : Str} {i : Int} (h : ∃ t, X.mg x = some (.int i t)) (hg : Gl X x) (hd : (x == ("__debug__" : Str)) = false := by decide) : PE X (.Name x pos) (tC (.int i)) := by
  obtain ⟨t, h⟩ := h
  exact pe_glob hg h ⟨_, rfl⟩ hd
theorem pe_ctK {T : String} {r : List V → Hp → VK → Prop} {x : Str} (hc : CallR X (.type T) r) (hv : bootBuiltins x = some (.type T)) (hm : X.mg x = none) (hg : Gl X x) (ha : PA X (e :: es) t) (hn : x ≠ "__name__" := by decide) (hdb : (x == ("__debug__" : Str)) = false := by decide)
    (he : starEach (e :: es) X.env = (false, eval e X.env) :: starEach es X.env := by rfl) (hpl : (backTo pos (starEach es X.env)).any (·.1) = false := by rfl) : PE X (.Call (.Name x p) (e :: es) [] pos) (tCB r t) := pe_callTy hc hg hm hv ha hn hdb he hpl
theorem pe_gty {n : String} {x : Str} (hm : X.mg x = none) (hv : bootBuiltins x = some (.type n)) (hg : Gl X x) (hn : x ≠ "__name__" := by decide) (hd : (x == ("__debug__" : Str)) = false := by decide) : PE X (.Name x pos) (tC (.ty n)) := pe_bltn hg hm hv rfl hn hd
theorem pe_gref {x : Str} {a : Addr} (hm : X.mg x = some (.ref a)) (hg : Gl X x) (hd : (x == ("__debug__" : Str)) = false := by decide) : PE X (.Name x pos) (tC (.ref a)) := pe_glob hg hm rfl hd
theorem pi_enumK (hK : X.K = K) (hg : Gl X "enumerate") (hm : X.mg "enumerate" = none) {elts : List Expr} {kk : Nat} (ha : PA X [e] t) (hs : starEach [e] X.env = [(false, eval e X.env)] := by rfl) : PI X (.Tuple elts kk tpos) (.Call (.Name "enumerate" p) [e] [] pos) (iEnum K t) := hK ▸ pi_enum hg hm ha hs
theorem pi_zipK (hK : X.K = K) (hg : Gl X "zip") (hm : X.mg "zip" = none) {elts : List Expr} {kk : Nat} {e2 : Expr} (ha : PA X [e, e2] t) (hs : starEach [e, e2] X.env = (false, eval e X.env) :: starEach [e2] X.env := by rfl) (hpl : (backTo pos (starEach [e2] X.env)).any (·.1) = false := by rfl) : PI X (.Tuple elts kk tpos) (.Call (.Name "zip" p) [e, e2] [] pos) (RZ.iZipA K t) := hK ▸ RZ.pi_zipA hg hm ha hs hpl
end
section
variable {P : Program} {w : World} {K : PySem.W.Frag} {mg : Str → Option Value} {base : Heap} {k : Nat} {x : Str} {N ps : List Str} {i : Nat}
/-- a def keeps its promise, as callers take it -/
theorem cal_mk {pr : Pr} (F : FnG K x i ∧ mg x = some (.ref (He.ga K x))) (S : FnScope N ps (defScope (topS i)))
    (hb : ∀ (kV doc pm : Value) (an : Option Addr) (cdv ct : Value) (us : List Value), us.length = ps.length → bindArgs (PySem.W.fnOf x x (defArgs (topS i)) (defBody (topS i)) (defScope (topS i)) .none kV doc pm an cdv ct) ⟨us, []⟩ = pure (ps.zip us))
    (hlen : ∀ ds ob QD, pr ds ob QD → ds.length = ps.length)
    (hbody : ∀ (cdv : Value) (A : Around) (outer : List Env) (s : Shared) (H : Hp) (f : Addr) (E : XK), Room k (A.deeper (envOfC x (defScope (topS i)) s.heap.objs.size f cdv)) →
      ∃ t, PSs (cxOf CX0 P w K mg base N x (defScope (topS i)) f cdv A outer s H E).nox (defBody (topS i)) t ∧ ∀ b : Bs, ∀ ds ob QD, pr ds ob QD → DX K b t ⟨startD N ds, ob⟩ { nx := endD QD .non, rt := endD QD }) : Cal P w K mg base (k + 1) x ps (spD K pr) := by
  obtain ⟨⟨fd, F⟩, hm⟩ := F
  refine ⟨_, fd, FunD.ok F S (fun vs H Q E h => spD_len h hlen) (fun cdv A outer s H vs Q E hr h => ?_), hm, F.kp, F.bindsN hb⟩
  obtain ⟨t, h1, h2⟩ := hbody cdv A outer s H (He.ga K x) E hr
  exact ⟨t, h1.nox, run_body h fun b ds ob QD p => h2 b ds ob QD p⟩
theorem cal_pure {pr : PrP} (F : FnG K x i ∧ mg x = some (.ref (He.ga K x))) (S : FnScope N ps (defScope (topS i)))
    (hb : ∀ (kV doc pm : Value) (an : Option Addr) (cdv ct : Value) (us : List Value), us.length = ps.length → bindArgs (PySem.W.fnOf x x (defArgs (topS i)) (defBody (topS i)) (defScope (topS i)) .none kV doc pm an cdv ct) ⟨us, []⟩ = pure (ps.zip us))
    (hlen : ∀ ds QD, pr ds QD → ds.length = ps.length)
    (hbody : ∀ (cdv : Value) (A : Around) (outer : List Env) (s : Shared) (H : Hp) (f : Addr) (E : XK), Room k (A.deeper (envOfC x (defScope (topS i)) s.heap.objs.size f cdv)) →
      ∃ t, PSs (cxOf CX0 P w K mg base N x (defScope (topS i)) f cdv A outer s H E).nox (defBody (topS i)) t ∧ ∀ b : Bs, ∀ ds QD, pr ds QD → DX K b t ⟨startD N ds, own0⟩ { nx := fun _ => QD .non, rt := fun r _ => QD r }) : Cal P w K mg base (k + 1) x ps (spP K pr) := by
  obtain ⟨⟨fd, F⟩, hm⟩ := F
  refine ⟨_, fd, FunD.ok F S (fun vs H Q E h => spP_len h hlen) (fun cdv A outer s H vs Q E hr h => ?_), hm, F.kp, F.bindsN hb⟩
  obtain ⟨t, h1, h2⟩ := hbody cdv A outer s H (He.ga K x) E hr
  exact ⟨t, h1.nox, run_pure h fun b ds QD p => h2 b ds QD p⟩
theorem cal_pureD {pr : PrP} (F : FnGD K x i ∧ mg x = some (.ref (He.ga K x))) (S : FnScope N ps (defScope (topS i)))
    (hb : ∀ (T : Addr) (kV doc pm : Value) (an : Option Addr) (cdv ct : Value) (us its : List Value), us.length = ps.length → its.length = 1 → ∃ k, bindArgs (PySem.W.fnOf x x (defArgs (topS i)) (defBody (topS i)) (defScope (topS i)) (.ref T) kV doc pm an cdv ct) ⟨us, []⟩ = seqItems? (.ref T) >>= k ∧ k (some its.toArray) = pure (ps.zip us))
    (hlen : ∀ ds QD, pr ds QD → ds.length = ps.length)
    (hbody : ∀ (cdv : Value) (A : Around) (outer : List Env) (s : Shared) (H : Hp) (f : Addr) (E : XK), Room k (A.deeper (envOfC x (defScope (topS i)) s.heap.objs.size f cdv)) →
      ∃ t, PSs (cxOf CX0 P w K mg base N x (defScope (topS i)) f cdv A outer s H E).nox (defBody (topS i)) t ∧ ∀ b : Bs, ∀ ds QD, pr ds QD → DX K b t ⟨startD N ds, own0⟩ { nx := fun _ => QD .non, rt := fun r _ => QD r }) : Cal P w K mg base (k + 1) x ps (spP K pr) := by
  obtain ⟨⟨fd, dv, F⟩, hm⟩ := F
  obtain ⟨ds, hv, hbi⟩ := F.binds1 (ps := ps) ps.length 1 (by simp) (by simp) fun T kV doc pm an cdv ct us its l1 l2 => by
    obtain ⟨k, e1, e2⟩ := hb T kV doc pm an cdv ct us its l1 l2
    refine ⟨k, e1, ?_⟩
    rw [e2, List.drop_eq_nil_of_le (by rw [l2]; exact Nat.le_refl 1), List.append_nil]
  cases hv
  refine ⟨_, fd, FunD.ok F S (fun vs H Q E h => spP_len h hlen) (fun cdv A outer s H vs Q E hr h => ?_), hm, F.kp, hbi⟩
  obtain ⟨t, h1, h2⟩ := hbody cdv A outer s H (He.ga K x) E hr
  exact ⟨t, h1.nox, run_pure h fun b ds QD p => h2 b ds QD p⟩
theorem cal_mkM {C m q : Str} {j : Nat} {pr : Pr} (T : Txt K mg base) (hC : C ∈ (["Ride", "Board", "Answer"] : List Str)) (F : FnM K C m q i j ∧ (m ≠ "__init__" → Meth K (He.ga K C) m (He.ma K (He.ga K C) m))) (S : FnScope N ps (defScope (inClass (topS i) j)))
    (hb : ∀ (kV doc pm : Value) (an : Option Addr) (cdv ct : Value) (us : List Value), us.length = ps.length → bindArgs (PySem.W.fnOf m q (defArgs (inClass (topS i) j)) (defBody (inClass (topS i) j)) (defScope (inClass (topS i) j)) .none kV doc pm an cdv ct) ⟨us, []⟩ = pure (ps.zip us))
    (hlen : ∀ ds ob QD, pr ds ob QD → ds.length = ps.length)
    (hbody : ∀ (cdv : Value) (A : Around) (outer : List Env) (s : Shared) (H : Hp) (f : Addr) (E : XK), Room k (A.deeper (envOfC q (defScope (inClass (topS i) j)) s.heap.objs.size f cdv)) →
      ∃ t, PSs (cxOf CX0 P w K mg base N q (defScope (inClass (topS i) j)) f cdv A outer s H E).nox (defBody (inClass (topS i) j)) t ∧ ∀ b : Bs, ∀ ds ob QD, pr ds ob QD → DX K b t ⟨startD N ds, ob⟩ { nx := endD QD .non, rt := endD QD }) : CalM P w K mg base (k + 1) C m ps (spD K pr) := by
  obtain ⟨⟨fd, F⟩, hm⟩ := F
  obtain ⟨c1, c2, c3⟩ := T.cls C hC
  refine ⟨_, fd, FunD.ok F S (fun vs H Q E h => spD_len h hlen) (fun cdv A outer s H vs Q E hr h => ?_), hm, c1, F.bindsN hb, fun e => ?_⟩
  · obtain ⟨t, h1, h2⟩ := hbody cdv A outer s H (He.ma K (He.ga K C) m) E hr
    exact ⟨t, h1.nox, run_body h fun b ds ob QD p => h2 b ds ob QD p⟩
  · subst e
    exact ⟨c3, c2⟩
end
end Cab
/-! DGap1 -/
set_option Elab.async false
set_option linter.all false
set_option maxRecDepth 100000
set_option maxHeartbeats 1000000
/-! The data layer, what lacks: enumerate of a tuple, zip of a tuple and a list. -/
namespace DL
open PySem PySem.Spec PyProof.Rows L2 RZ
/-! ### enumerate(tuple) -/
theorem meets_enumT (l : Addr) (items : Array Value) :
    Meets (Builtin.«enumerate.__new__» ⟨[.type "enumerate", .ref l], []⟩) (fun _ R s => s.heap.IsTuple l items ∧
      R (.ok (.ret (.ref (s.heap.push { cls := .type "tuple_iterator", data := .fields #[.ref l, .int 0 0] }).objs.size)))
        { s with heap := (s.heap.push { cls := .type "tuple_iterator", data := .fields #[.ref l, .int 0 0] }).push { cls := .type "enumerate", data := .fields #[.none, .bool false, .ref s.heap.objs.size, rawInt 0, .none, .none] } }) :=
  .of_wp fun prog w A R s h => by
    obtain ⟨hp, g, d, tk, os⟩ := s; obtain ⟨hl, h⟩ := h
    have hsub := sub_enumerate
    have q1 : ∀ {A' : Around} {E : Value → Shared → Prop} {Q : Value → Shared → Prop}, Q (.ref hp.objs.size) ⟨hp.push { cls := .type "tuple_iterator", data := .fields #[.ref l, .int 0 0] }, g, d, tk, os⟩ → wpAny (model prog w) A' (pyIter (.ref l)) Q E ⟨hp, g, d, tk, os⟩ :=
      fun q => (begins_tuple l items).iter prog w _ _ ⟨hp, g, d, tk, os⟩ _ hl q
    wp_walk using q1
    refine wpAny_stack_any fun st => wpAny_pure ?_
    split
    · rename_i c _ _ _ _ _
      cases (c == Value.type "enumerate")
      · wp_walk using q1
        exact ⟨_, rfl, h⟩
      · wp_walk using q1
        exact ⟨_, rfl, h⟩
    · wp_walk using q1
      exact ⟨_, rfl, h⟩
theorem call_enumT {prog : Program} {w : World} {A : Around} {E : Value → Shared → Prop} {s : Shared} {l : Addr} {items : Array Value} {Q : Value → Shared → Prop} (hL : s.heap.IsTuple l items)
    (h : ∀ h', IsEnum h' (s.heap.objs.size + 1) s.heap.objs.size 0 .none → h'.IsTupleIter s.heap.objs.size l 0 → h'.objs.size = s.heap.objs.size + 2 →
      (∀ b o, s.heap.get? b = some o → h'.get? b = some o) → Q (.ref (s.heap.objs.size + 1)) { s with heap := h' }) :
    wpAny (model prog w) A (call (.type "enumerate") [.ref l]) Q E s := by
  refine callType_new F.called_enumerate (by decide) (F.typeCall_enumerate_1 _) (F.newCall_enumerate_1 _) (fun obj => F.args_object_init_2 obj _) F.entry_enumerate_new
    (meets_enumT l items) ⟨hL, ?_⟩
  have hz : (s.heap.push { cls := .type "tuple_iterator", data := .fields #[.ref l, .int 0 0] }).objs.size = s.heap.objs.size + 1 := Heap.size_push ..
  show _ ∧ _
  rw [hz]
  have he : IsEnum ((s.heap.push { cls := .type "tuple_iterator", data := .fields #[.ref l, .int 0 0] }).push
      { cls := .type "enumerate", data := .fields #[.none, .bool false, .ref s.heap.objs.size, rawInt 0, .none, .none] }) (s.heap.objs.size + 1) s.heap.objs.size 0 .none := by
    have := Heap.get?_push_size (s.heap.push { cls := .type "tuple_iterator", data := .fields #[.ref l, .int 0 0] })
      (o := { cls := .type "enumerate", data := .fields #[.none, .bool false, .ref s.heap.objs.size, rawInt 0, .none, .none] }) rfl
    rw [hz] at this; exact this
  refine ⟨⟨_, he, rfl⟩, h _ he ⟨_, Heap.get?_push_of_some _ (Heap.get?_push_size _ rfl), rfl, rfl⟩ (by rw [Heap.size_push, hz]) fun b o x => Heap.get?_push_of_some _ (Heap.get?_push_of_some _ x)⟩
/-- the tuple at a, each item in a new pair -/
def IteT (K : PySem.W.Frag) (a : Addr) : It :=
  ⟨fun i H => ∃ (xs : List V) (x : V), SqT K H a xs ∧ xs[i]? = some x, fun i H v H' => ∃ T x, v = .ref T ∧ H T = none ∧ H' = upd H T (.tup [.int (i : Nat), x]) ∧ ∀ xs, SqT K H a xs → xs[i]? = some x, fun i H => ∃ xs : List V, SqT K H a xs ∧ xs.length = i⟩
theorem turn_enumT {P : Program} {w : World} {K : PySem.W.Frag} {elts : List Expr} {kk : Nat} {tpos : Pos} (a e it : Addr) (hae : e ≠ a) (hai : a ≠ it) :
    Turn P w K (.Tuple elts kk tpos) (IteT K a) [e, it] e (fun i h => (∃ old, IsEnum h e it ((i : Nat) : Int) old) ∧ h.IsTupleIter it a i ∧ e ≠ it) where
  mem := by simp
  obj := fun i h st b hb => by
    obtain ⟨⟨old, he⟩, ⟨o, ho, hc, hd⟩, _⟩ := st
    have e' : b = e ∨ b = it := by simpa using hb
    rcases e' with z | z
    · rw [z]; exact ⟨_, he, fun v q => nomatch q⟩
    · rw [z]; exact ⟨o, ho, fun v q => by rw [hd] at q; cases q⟩
  keep := fun i h h' st k => let ⟨⟨old, he⟩, hi, hne⟩ := st; ⟨⟨old, k e (by simp) _ he⟩, hi.at fun o q => k it (by simp) o q, hne⟩
  item := by
    intro X hP hw hK hc i pins s σ H E I hf st hg
    subst hP hw hK
    obtain ⟨⟨old, he⟩, hit, hne⟩ := st
    obtain ⟨xs, x, hq, hx⟩ := hg
    obtain ⟨its, rv, p, _⟩ := I.tuple hq
    have p : s.heap.IsTuple a its.toArray := p
    obtain ⟨u, hu, ru⟩ := rv.get hx
    have hel : e < s.heap.objs.size := Heap.lt_size he
    have hil : it < s.heap.objs.size := by obtain ⟨_, q, _⟩ := hit; exact Heap.lt_size q
    have hin : i < its.toArray.size := by
      have := (List.getElem?_eq_some_iff.mp hu).1
      simpa using this
    refine wpAny_pyNext_enum_itemD (Draws.tuple (prog := X.prog) (w := X.w) (A := X.A.in1) (show X.A.in1.handled = none from I.ok.hd hc) it a hai its.toArray) he ⟨hit, p⟩ hin hne (by simp [hne, hae]) fun x' h' tk hx' ho hst' hT hsz hk => ?_
    have ex : x' = u := by
      have : its[i]? = some x' := by simpa using hx'
      rw [hu] at this; exact (Option.some.inj this).symm
    subst ex
    refine ⟨_, rfl, wpAny_letOwnedTupleGo_enum (s := { s with heap := h', toks := tk + 1 }) ho fun h'' he' sb => ?_⟩
    have hT2 : h''.get? s.heap.objs.size = some { cls := .type "tuple", data := .seq #[.int i tk, x'] } := (sb.2 _ (Nat.ne_of_gt hel)).trans hT
    have new : ObjOk X.prog X.w (upd H s.heap.objs.size (.tup [.int (i : Nat), x])) h'' s.heap.objs.size (.tup [.int (i : Nat), x]) :=
      ⟨by show 2 ≤ sizeLine; decide, [.int i tk, x'], .cons ⟨_, rfl⟩ (.cons ru .nil), ⟨_, hT2, rfl, _, rfl⟩⟩
    have I1 : Inv X pins σ (upd H s.heap.objs.size (.tup [.int (i : Nat), x])) { s with heap := h'', toks := tk + 1 } :=
      I.turnedNew (ch := [e, it]) (fun b ob hb q => (sb.2 b (fun z => hb (by simp [z]))).trans (hk b ob (fun z => hb (by simp [z])) (fun z => hb (by simp [z])) q)) hf (Nat.le_refl _) new
    refine ⟨.ref s.heap.objs.size, _, I1, rfl, ⟨_, x, rfl, I.hok.fresh (Nat.le_refl _), rfl, fun ys hy => by rw [I.tuple_inj hy hq]; exact hx⟩, ⟨⟨x', ?_⟩, hst'.1.at fun o q => (sb.2 it (Ne.symm hne)).trans q, hne⟩, fun b hb => ?_⟩
    · have e1 : ((i + 1 : Nat) : Int) = (i : Int) + 1 := by omega
      rw [e1]; exact he'
    · have hb' : b < s.heap.objs.size := by
        have e' : b = e ∨ b = it := by simpa using hb
        rcases e' with z | z
        · rw [z]; exact hel
        · rw [z]; exact hil
      rw [upd_ne (Nat.ne_of_lt hb')]
      exact (hf b hb).1
  done := by
    intro X hP hw hK hc i pins s σ H E I hf st hg
    subst hP hw hK
    obtain ⟨⟨old, he⟩, hit, hne⟩ := st
    obtain ⟨xs, hq, hx⟩ := hg
    obtain ⟨its, rv, p, _⟩ := I.tuple hq
    have p : s.heap.IsTuple a its.toArray := p
    have hl := rv.length
    have hin : i = its.toArray.size := by simp; omega
    subst hin
    exact wpAny_pyNext_enum_endD (Draws.tuple (prog := X.prog) (w := X.w) (A := X.A.in1) (show X.A.in1.handled = none from I.ok.hd hc) it a hai its.toArray) he ⟨hit, p⟩ fun h' eb => ⟨rfl, I.turnedL (t' := s.toks) (ch := [e, it]) (fun b o hb q => eb b o (fun z => hb (by simp [z])) q) hf⟩
  self := fun A i s Q E st h => let ⟨⟨_, he⟩, _⟩ := st; wpAny_pyIter_enum he h
def iEnumT (K : PySem.W.Frag) (ta : TA) : TI := fun σ H R => ta σ H fun vs H1 => ∃ a xs, vs = [.ref a] ∧ SqT K H1 a xs ∧ R (IteT K a) H1
theorem pi_enumT {X : Cx} {e : Expr} {ta : TA} {p pos tpos : Pos} {elts : List Expr} {kk : Nat} (hg : Gl X "enumerate") (hm : X.mg "enumerate" = none) (ha : PA X [e] ta) (hs : starEach [e] X.env = [(false, eval e X.env)] := by rfl) :
    PI X (.Tuple elts kk tpos) (.Call (.Name "enumerate" p) [e] [] pos) (iEnumT X.K ta) := by
  refine ⟨fun pins s σ H R I h => ?_⟩
  refine Call_ (ld_blt I hg hm boot_enumerate (PyProof.Rows.callWith_type1 (thn (ha.run pos pins s σ H _ I h) fun us s1 ⟨vs, H1, I1, r1, q1⟩ => ?_) hs rfl))
  obtain ⟨a, xs, ex, hq, q⟩ := q1
  subst ex
  cases r1 with
  | cons r rr =>
    cases rr
    cases r
    obtain ⟨its, rv, p', _⟩ := I1.tuple hq
    have p' : s1.heap.IsTuple a its.toArray := p'
    have hal : a < s1.heap.objs.size := by obtain ⟨_, q, _⟩ := p'; exact Heap.lt_size q
    refine call_enumT p' fun h' he hit hsz hk => wpAny_pyIter_enum he ?_
    have I2 : Inv X pins σ H1 { s1 with heap := h' } := I1.kept (t' := s1.toks) hk
    refine ⟨s1.heap.objs.size + 1, [s1.heap.objs.size + 1, s1.heap.objs.size], _, _, H1, rfl, I2, turn_enumT a (s1.heap.objs.size + 1) s1.heap.objs.size (Nat.ne_of_gt (Nat.lt_succ_of_lt hal)) (Nat.ne_of_lt hal), ⟨⟨.none, he⟩, hit, Nat.succ_ne_self _⟩, fun b hb => ?_, q⟩
    have e' : b = s1.heap.objs.size + 1 ∨ b = s1.heap.objs.size := by simpa using hb
    have hle : s1.heap.objs.size ≤ b := by
      rcases e' with z | z
      · rw [z]; exact Nat.le_add_right _ _
      · rw [z]; exact Nat.le_refl _
    exact I1.fpOk hle (I1.hok.fresh hle)
section
variable {K : PySem.W.Frag} {b : Bs} {d : St} {Q : Dt → St → Prop} {RI : List Dt → (St → Prop) → St → Prop}
theorem di_enumT {t : TA} (h : DA K b t d fun ys d1 => ∃ xs, ys = [.tup xs] ∧ RI (enumD xs) (fun _ => True) d1) : DI K b (iEnumT K t) d RI := fun F σ H R P kk =>
  h F σ H R _ fun vs H1 F1 ys d1 s1 R1 r1 ⟨xs, e, q⟩ => by
    subst e
    obtain ⟨v, r, e1, r2, r3⟩ := r1
    have r3 : r = [] := r3
    subst r3
    simp only [Rel] at r2
    obtain ⟨p, us, e2, r4, r5⟩ := r2
    subst e2
    refine ⟨p, us, e1, sqt_mono R1.sub r4, kk _ H1 F1 d1 (enumD xs) _ s1 R1 ⟨fun i F d σ H hi s R g => ?_, fun F d σ H s R g => ?_, fun i F d σ H v H' hi s R g y => ?_⟩ q⟩
    · rw [enumD_len] at hi
      obtain ⟨u, h7, _⟩ := r5.get (List.getElem?_eq_getElem hi)
      exact ⟨us, u, sqt_mono R.sub (sqt_mono s r4), h7⟩
    · rw [enumD_len]
      exact ⟨us, sqt_mono R.sub (sqt_mono s r4), r5.len⟩
    · rw [enumD_len] at hi
      obtain ⟨u, h7, h8⟩ := r5.get (List.getElem?_eq_getElem hi)
      obtain ⟨T, x1, e, hT, eH, f2⟩ := y
      subst e; subst eH
      have := f2 us (sqt_mono R.sub (sqt_mono s r4))
      rw [h7] at this
      cases this
      obtain ⟨a1, a2, a3⟩ := pair_new R hT (x := .int (i : Nat)) relInt (h8.mono s)
      exact ⟨_, _, enumD_at hi, a1, a2, a3⟩
end
/-! ### zip(tuple, list) -/
/-- the tuple at a, the list at b, the items in new pairs -/
def ItzTL (K : PySem.W.Frag) (a b : Addr) : It :=
  ⟨fun i H => ∃ (xs ys : List V) (x y : V), SqT K H a xs ∧ SqL K H b ys ∧ xs[i]? = some x ∧ ys[i]? = some y,
    fun i H v H' => ∃ T x y, v = .ref T ∧ H T = none ∧ H' = upd H T (.tup [x, y]) ∧ (∀ xs, SqT K H a xs → xs[i]? = some x) ∧ ∀ ys, SqL K H b ys → ys[i]? = some y,
    fun i H => ∃ xs ys : List V, SqT K H a xs ∧ SqL K H b ys ∧ i ≤ xs.length ∧ i ≤ ys.length ∧ (i = xs.length ∨ i = ys.length)⟩
theorem turn_zipTL {P : Program} {w : World} {K : PySem.W.Frag} {elts : List Expr} {kk : Nat} {tpos : Pos} {a b z TI TO i1 i2 : Addr} (D : ZipSep2 z TI TO i1 i2 [i1, a] [i2, b]) (h1a : a ≠ i1) (h2b : b ≠ i2) :
    Turn P w K (.Tuple elts kk tpos) (ItzTL K a b) [z, TI, TO, i1, i2] z (fun i h => IsZip h z TI TO .none ∧ IsTupOf2 h TI (.ref i1) (.ref i2) ∧ (∃ x y, IsTupOf2 h TO x y) ∧ h.IsTupleIter i1 a i ∧ h.IsListIter i2 b i) where
  mem := by simp
  obj := fun i h st c hc => by
    obtain ⟨hz, hTI, ⟨x, y, hTO⟩, ⟨o1, e1, _, d1⟩, ⟨o2, e2, _, d2⟩⟩ := st
    have e' : c = z ∨ c = TI ∨ c = TO ∨ c = i1 ∨ c = i2 := by simpa using hc
    rcases e' with q | q | q | q | q
    · rw [q]; exact ⟨_, hz, fun v q => nomatch q⟩
    · rw [q]; exact ⟨_, hTI, fun v q => nomatch q⟩
    · rw [q]; exact ⟨_, hTO, fun v q => nomatch q⟩
    · rw [q]; exact ⟨o1, e1, fun v q => by rw [d1] at q; cases q⟩
    · rw [q]; exact ⟨o2, e2, fun v q => by rw [d2] at q; cases q⟩
  keep := fun i h h' st k => by
    obtain ⟨hz, hTI, ⟨x, y, hTO⟩, h1, h2⟩ := st
    exact ⟨k z (by simp) _ hz, k TI (by simp) _ hTI, ⟨x, y, k TO (by simp) _ hTO⟩, h1.at fun o q => k i1 (by simp) o q, h2.at fun o q => k i2 (by simp) o q⟩
  item := by
    intro X hP hw hK hc i pins s σ H E I hf st hg
    subst hP hw hK
    obtain ⟨hz, hTI, ⟨x0, y0, hTO⟩, h1, h2⟩ := st
    obtain ⟨xs, ys, x, y, hqx, hqy, hx, hy⟩ := hg
    obtain ⟨its, rv, p, _⟩ := I.tuple hqx
    obtain ⟨its2, rv2, p2, _⟩ := I.list hqy
    have p : s.heap.IsTuple a its.toArray := p
    obtain ⟨u, hu, ru⟩ := rv.get hx
    obtain ⟨u2, hu2, ru2⟩ := rv2.get hy
    have hzl : z < s.heap.objs.size := Heap.lt_size hz
    have hh : X.A.in1.handled = none := I.ok.hd hc
    have n1 : i < its.toArray.size := by simpa using (List.getElem?_eq_some_iff.mp hu).1
    have n2 : i < its2.toArray.size := by simpa using (List.getElem?_eq_some_iff.mp hu2).1
    refine wpAny_pyNext_zipD2_item D (Draws.tuple (prog := X.prog) (w := X.w) hh i1 a h1a its.toArray) (Draws.list (prog := X.prog) (w := X.w) hh i2 b h2b its2.toArray) hz hTI hTO ⟨h1, p⟩ ⟨h2, p2.isList⟩ n1 n2 fun x1 x2 h' tk e1 e2 z' TO' h1' h2' hT hsz hk => ?_
    have ex1 : x1 = u := by
      have : its[i]? = some x1 := by simpa using e1
      rw [hu] at this; exact (Option.some.inj this).symm
    have ex2 : x2 = u2 := by
      have : its2[i]? = some x2 := by simpa using e2
      rw [hu2] at this; exact (Option.some.inj this).symm
    subst ex1; subst ex2
    refine ⟨_, rfl, wpAny_letOwnedTupleGo_zip (s := { s with heap := h', toks := tk }) z' fun h'' z'' sb => ?_⟩
    have hT2 : h''.get? s.heap.objs.size = some { cls := .type "tuple", data := .seq #[x1, x2] } := (sb.2 _ (Nat.ne_of_gt hzl)).trans hT
    have new : ObjOk X.prog X.w (upd H s.heap.objs.size (.tup [x, y])) h'' s.heap.objs.size (.tup [x, y]) :=
      ⟨by show 2 ≤ sizeLine; decide, [x1, x2], .cons ru (.cons ru2 .nil), ⟨_, hT2, rfl, _, rfl⟩⟩
    have I1 : Inv X pins σ (upd H s.heap.objs.size (.tup [x, y])) { s with heap := h'', toks := tk } :=
      I.turnedNew (t' := tk) (ch := [z, TI, TO, i1, i2]) (fun c o hb q => (sb.2 c (fun q' => hb (by simp [q']))).trans (hk c o (fun q' => hb (by simp [q'])) (fun q' => hb (by simp [q'])) (fun q' => hb (by simp [q'])) (fun q' => hb (by simp [q'])) q)) hf (Nat.le_refl _) new
    refine ⟨.ref s.heap.objs.size, _, I1, rfl, ⟨_, x, y, rfl, I.hok.fresh (Nat.le_refl _), rfl, fun l hl => by rw [I.tuple_inj hl hqx]; exact hx, fun l hl => by rw [I.list_inj hl hqy]; exact hy⟩, ⟨z'', ?_, ⟨x1, x2, ?_⟩, ?_, ?_⟩, fun c hcm => ?_⟩
    · exact (sb.2 _ D.TIz).trans (hk _ _ D.TIz D.TITO D.TIi1 D.TIi2 hTI)
    · exact (sb.2 _ D.TOz).trans TO'
    · exact h1'.1.at fun o q => (sb.2 _ D.zi1.symm).trans q
    · exact h2'.1.at fun o q => (sb.2 _ D.zi2.symm).trans q
    · have hlt : c < s.heap.objs.size := by
        have e' : c = z ∨ c = TI ∨ c = TO ∨ c = i1 ∨ c = i2 := by simpa using hcm
        rcases e' with q | q | q | q | q
        · rw [q]; exact hzl
        · rw [q]; exact Heap.lt_size hTI
        · rw [q]; exact Heap.lt_size hTO
        · rw [q]; obtain ⟨_, e1, _⟩ := h1; exact Heap.lt_size e1
        · rw [q]; obtain ⟨_, e2, _⟩ := h2; exact Heap.lt_size e2
      rw [upd_ne (Nat.ne_of_lt hlt)]
      exact (hf c hcm).1
  done := by
    intro X hP hw hK hc i pins s σ H E I hf st hg
    subst hP hw hK
    obtain ⟨hz, hTI, ⟨x0, y0, hTO⟩, h1, h2⟩ := st
    obtain ⟨xs, ys, hqx, hqy, hle1, hle2, hend⟩ := hg
    obtain ⟨its, rv, p, _⟩ := I.tuple hqx
    obtain ⟨its2, rv2, p2, _⟩ := I.list hqy
    have p : s.heap.IsTuple a its.toArray := p
    have l1 := rv.length
    have l2 := rv2.length
    have hh : X.A.in1.handled = none := I.ok.hd hc
    have s1 : its.toArray.size = its.length := by simp
    have s2 : its2.toArray.size = its2.length := by simp
    exact wpAny_pyNext_zipD2_end D (Draws.tuple (prog := X.prog) (w := X.w) hh i1 a h1a its.toArray) (Draws.list (prog := X.prog) (w := X.w) hh i2 b h2b its2.toArray) hz hTI hTO ⟨h1, p⟩ ⟨h2, p2.isList⟩ (by omega) (by omega) (by omega) fun h' tk hk => ⟨rfl, I.turnedL (t' := tk) (ch := [z, TI, TO, i1, i2]) (fun c o hb q =>
      hk c o (fun q' => hb (by simp [q'])) (fun q' => hb (by simp [q'])) (fun q' => hb (by simp [q'])) (fun q' => hb (by simp [q'])) q) hf⟩
  self := fun A i s Q E st h => wpAny_pyIter_zip st.1 h
def iZipTL (K : PySem.W.Frag) (ta : TA) : TI := fun σ H R => ta σ H fun vs H1 => ∃ a b xs ys, vs = [.ref a, .ref b] ∧ SqT K H1 a xs ∧ SqL K H1 b ys ∧ R (ItzTL K a b) H1
theorem pi_zipTL {X : Cx} {e e2 : Expr} {ta : TA} {p pos tpos : Pos} {elts : List Expr} {kk : Nat} (hg : Gl X "zip") (hm : X.mg "zip" = none) (ha : PA X [e, e2] ta)
    (hs : starEach [e, e2] X.env = (false, eval e X.env) :: starEach [e2] X.env := by rfl) (hpl : (backTo pos (starEach [e2] X.env)).any (·.1) = false := by rfl) :
    PI X (.Tuple elts kk tpos) (.Call (.Name "zip" p) [e, e2] [] pos) (iZipTL X.K ta) := by
  refine ⟨fun pins s σ H R I h => ?_⟩
  refine Call_ (ld_blt I hg hm PyProof.Rows.boot_zip (PyProof.Rows.callWith_type1 (thn (ha.run pos pins s σ H _ I h) fun us s1 ⟨vs, H1, I1, r1, q1⟩ => ?_) hs hpl))
  obtain ⟨a, b, xs, ys, ex, hqx, hqy, q⟩ := q1
  subst ex
  cases r1 with
  | cons r rr =>
    cases rr with
    | cons r' rr =>
      cases rr
      cases r
      cases r'
      have fresh5 : ∀ c, c ∈ [s1.heap.objs.size + 4, s1.heap.objs.size + 2, s1.heap.objs.size + 3, s1.heap.objs.size, s1.heap.objs.size + 1] → FpOk X pins H1 c := fun c hcm => by
        have e' : c = s1.heap.objs.size + 4 ∨ c = s1.heap.objs.size + 2 ∨ c = s1.heap.objs.size + 3 ∨ c = s1.heap.objs.size ∨ c = s1.heap.objs.size + 1 := by simpa using hcm
        have hle : s1.heap.objs.size ≤ c := by
          rcases e' with z | z | z | z | z
          · rw [z]; exact Nat.le_add_right _ _
          · rw [z]; exact Nat.le_add_right _ _
          · rw [z]; exact Nat.le_add_right _ _
          · rw [z]; exact Nat.le_refl _
          · rw [z]; exact Nat.le_add_right _ _
        exact I1.fpOk hle (I1.hok.fresh hle)
      obtain ⟨its, rv, p1, _⟩ := I1.tuple hqx
      obtain ⟨its2, rv2, p2, _⟩ := I1.list hqy
      have p1 : s1.heap.IsTuple a its.toArray := p1
      have hal : a < s1.heap.objs.size := by obtain ⟨_, q, _⟩ := p1; exact Heap.lt_size q
      have hbl : b < s1.heap.objs.size := p2.lt
      refine zip_begins2 (begins_tuple a its.toArray) (begins_list b its2.toArray) p1 p2.isList fun h' hz hTI hTO h1 h2 hsz hk => wpAny_pyIter_zip hz ?_
      have I2 : Inv X pins σ H1 { s1 with heap := h' } := I1.kept (t' := s1.toks) hk
      exact ⟨s1.heap.objs.size + 4, [s1.heap.objs.size + 4, s1.heap.objs.size + 2, s1.heap.objs.size + 3, s1.heap.objs.size, s1.heap.objs.size + 1], _, _, H1, rfl, I2,
        turn_zipTL (zip_sep2 (N := s1.heap.objs.size) (fp1 := [a]) (fp2 := [b]) (fun c hc => (show c = a by simpa using hc) ▸ hal) (fun c hc => (show c = b by simpa using hc) ▸ hbl)) (Nat.ne_of_lt hal) (Nat.ne_of_lt (Nat.lt_succ_of_lt hbl)),
        ⟨hz, hTI, ⟨_, _, hTO⟩, ⟨_, h1, rfl, rfl⟩, ⟨_, h2, rfl, rfl⟩⟩, fresh5, q⟩
section
variable {K : PySem.W.Frag} {b : Bs} {d : St} {Q : Dt → St → Prop} {RI : List Dt → (St → Prop) → St → Prop}
theorem di_zipTL {t : TA} (h : DA K b t d fun zs d1 => ∃ xs ys, zs = [.tup xs, .lst ys] ∧ RI (zipD xs ys) (fun _ => True) d1) : DI K b (iZipTL K t) d RI := fun F σ H R P kk =>
  h F σ H R _ fun vs H1 F1 zs d1 s1 R1 r1 ⟨xs, ys, e, q⟩ => by
    subst e
    obtain ⟨v, w, e1, r2, r4⟩ := two_of r1
    simp only [Rel] at r2 r4
    obtain ⟨p, us, e3, r6, r7⟩ := r2
    obtain ⟨p', us', e4, r8, r9⟩ := r4
    subst e3; subst e4
    have l1 := r7.len
    have l2 := r9.len
    refine ⟨p, p', us, us', e1, sqt_mono R1.sub r6, R1.sub.seq r8, kk _ H1 F1 d1 (zipD xs ys) _ s1 R1 ⟨fun i F d σ H hi s R g => ?_, fun F d σ H s R g => ?_, fun i F d σ H v H' hi s R g y => ?_⟩ q⟩
    · rw [zipD_len] at hi
      have hx : i < xs.length := by omega
      have hy : i < ys.length := by omega
      obtain ⟨u, h1, _⟩ := r7.get (List.getElem?_eq_getElem hx)
      obtain ⟨w, h3, _⟩ := r9.get (List.getElem?_eq_getElem hy)
      exact ⟨us, us', u, w, sqt_mono R.sub (sqt_mono s r6), R.sub.seq (s.seq r8), h1, h3⟩
    · rw [zipD_len]
      exact ⟨us, us', sqt_mono R.sub (sqt_mono s r6), R.sub.seq (s.seq r8), by omega, by omega, by omega⟩
    · rw [zipD_len] at hi
      have hx : i < xs.length := by omega
      have hy : i < ys.length := by omega
      obtain ⟨u, h1, h2⟩ := r7.get (List.getElem?_eq_getElem hx)
      obtain ⟨w, h3, h4⟩ := r9.get (List.getElem?_eq_getElem hy)
      obtain ⟨T, x1, y1, e, hT, eH, f1, f2⟩ := y
      subst e; subst eH
      have g1 := f1 us (sqt_mono R.sub (sqt_mono s r6))
      have g2 := f2 us' (R.sub.seq (s.seq r8))
      rw [g1] at h1; cases h1
      rw [g2] at h3; cases h3
      obtain ⟨a1, a2, a3⟩ := pair_new R hT (h2.mono s) (h4.mono s)
      exact ⟨_, _, zipD_at (List.getElem?_eq_getElem hx) (List.getElem?_eq_getElem hy), a1, a2, a3⟩
end
end DL
namespace Cab
open PySem PySem.Spec PyProof.Rows L2 DL
section
variable {X : Cx} {K : PySem.W.Frag} {e : Expr} {pos tpos p : Pos} {t : TA}
theorem pi_enumTK (hK : X.K = K) (hg : Gl X "enumerate") (hm : X.mg "enumerate" = none) {elts : List Expr} {kk : Nat} (ha : PA X [e] t) (hs : starEach [e] X.env = [(false, eval e X.env)] := by rfl) : PI X (.Tuple elts kk tpos) (.Call (.Name "enumerate" p) [e] [] pos) (iEnumT K t) := hK ▸ pi_enumT hg hm ha hs
theorem pi_zipTLK (hK : X.K = K) (hg : Gl X "zip") (hm : X.mg "zip" = none) {elts : List Expr} {kk : Nat} {e2 : Expr} (ha : PA X [e, e2] t) (hs : starEach [e, e2] X.env = (false, eval e X.env) :: starEach [e2] X.env := by rfl) (hpl : (backTo pos (starEach [e2] X.env)).any (·.1) = false := by rfl) : PI X (.Tuple elts kk tpos) (.Call (.Name "zip" p) [e, e2] [] pos) (iZipTL K t) := hK ▸ pi_zipTL hg hm ha hs hpl
end
end Cab
/-! DGap2 -/
set_option Elab.async false
set_option linter.all false
set_option maxRecDepth 100000
set_option maxHeartbeats 1000000
/-! The data layer, what lacks: comprehensions of two clauses; slots frozen. -/
namespace DL
open PySem PySem.Spec PyProof.Rows L2 RZ
section
variable {K : PySem.W.Frag} {b : Bs} {d : St} {Q : Dt → St → Prop} {QB : Bool → St → Prop} {ta tb te tc : TE} {tt tu : TT} {x y : Dt} {i j : Int} {k : Nat} {E : En}
theorem DG.get {g : TG} {q : St → Prop} (h : DG K b g x d q) {F : Hp} {σ : L2.St} {H : Hp} (R : Rl K b F d σ H) {v : V} (r : Rel K F x v) : g v σ H fun σ4 H4 => ∃ F4 d4, Same F F4 ∧ Rl K b F4 d4 σ4 H4 ∧ q d4 :=
  h F σ H R v r _ fun σ4 H4 F4 d4 s4 R4 q4 => ⟨F4, d4, s4, R4, q4⟩
theorem de_lc2O {wi wi1 : TI} {g g1 : TG} {vs vs1 : List Nat} (hw : Wp g vs) (hm : MoG g) (hw1 : Wp g1 vs1) (hm1 : MoG g1) (h : DI K b wi d fun items G d1 => (∀ d, G d) ∧ ∃ Iv : Nat → List Dt → Prop, Iv 0 [] ∧
    (∀ (b : Bs) i x acc, items[i]? = some x → Iv i acc → DG K b g x ⟨wipeD d1.sl vs, d1.own⟩ fun d2 => d2.own = d1.own ∧ DI K b wi1 d2 fun items1 G1 d3 => d3 = d2 ∧ (∀ d, G1 d) ∧ ∃ Iv1 : Nat → List Dt → Prop, Iv1 0 acc ∧
      (∀ (b : Bs) j y acc, items1[j]? = some y → Iv1 j acc → DG K b g1 y ⟨wipeD d2.sl vs1, d2.own⟩ fun d4 => DE K b te d4 fun z d5 => d5.own = d1.own ∧ acc.length < 100000 ∧ Iv1 (j + 1) (acc ++ [z])) ∧ ∀ acc, Iv1 items1.length acc → Iv (i + 1) acc) ∧
    ∀ acc, Iv items.length acc → ∀ p, d1.own p = none → Q (.ptr p) ⟨d1.sl, d1.own.put p (.lst acc)⟩) : DE K b (tLc2 wi g tYes wi1 g1 tYes te vs vs1) d Q := fun F σ H R P kk =>
  h F σ H R _ fun J H1 F1 d1 items G s1 R1 w ⟨hG, Iv, i0, turn, done⟩ => fun D hD => by
    have f0 : b.F0 D = none := R1.old.free (R1.sub.free hD)
    have b0 : b.B D = none := R1.base.free hD
    have oD : d1.own D = none := own_none R1 hD
    refine ⟨fun i m H => m = items.length - i ∧ i ≤ items.length ∧ ∃ F2 acc us, Same F1 F2 ∧ F2 D = none ∧ Rl K b F2 ⟨d1.sl, d1.own⟩ σ H ∧ H D = some (.lst us) ∧ RelL K F2 acc us ∧ Iv i acc,
      ⟨items.length, by simp, Nat.zero_le _, F1, [], [], Same.refl F1, R1.sub.free hD, R1.grow (same_upd hD) (Same.refl F1) (R1.sub.trans (same_upd hD)) R1.nt (fun _ _ e => .inl e), upd_same, .nil, i0⟩, ?_⟩
    rintro i m H2 ⟨rfl, hi, F2, acc, us, s2, fD, R2, hDl, ru, iv⟩
    have nol : ∀ (us : List V) ps, HO.lst us ≠ .tbl ps := fun _ _ z => nomatch z
    have Rb : Rl K ⟨upd b.B D (.lst us), b.F0⟩ F2 ⟨wipeD d1.sl vs, d1.own⟩ (wipe σ vs) H2 := (R2.blk (sl := wipeD d1.sl vs) (σ' := wipe σ vs) (by rw [wipeD_len, wipe_len']; exact R2.len) (wipeD_wipe R2.slots)).lay fD oD hDl (nol us)
    by_cases hlt : i < items.length
    · refine .inr ⟨w.goes i F2 ⟨wipeD d1.sl vs, d1.own⟩ (wipe σ vs) H2 hlt s2 Rb (hG _), fun H' => ∃ F3 acc' us', Same F1 F3 ∧ F3 D = none ∧ Rl K b F3 ⟨d1.sl, d1.own⟩ σ H' ∧ H' D = some (.lst us') ∧ RelL K F3 acc' us' ∧ Iv (i + 1) acc',
        fun H' h' => ⟨_, by omega, rfl, hlt, h'⟩, fun v H3 hy => ?_⟩
      obtain ⟨F3, x, ex, s3, R3, r3⟩ := w.yields i F2 ⟨wipeD d1.sl vs, d1.own⟩ (wipe σ vs) H2 v H3 hlt s2 Rb (hG _) hy
      have tq := (turn _ i x acc ex iv).get R3 r3
      refine hm _ _ _ _ _ (fun σ4 H4 z => ?_) (hw v (wipe σ vs) H3 _ tq)
      obtain ⟨ew, F4, d4, s4, R4, eo, q4⟩ := z
      refine ⟨by rw [ew]; exact wipe_wipe σ vs, ?_⟩
      (dsimp only [tYes]; rw [if_pos rfl])
      refine q4 F4 σ4 H4 R4 _ fun J1 H5 F5 d5 items1 G1 s5 R5 w1 ⟨e5, hG1, Iv1, j0, turn1, done1⟩ => ?_
      subst e5
      have s25 : Same F2 F5 := (s3.trans s4).trans s5
      obtain ⟨z1, z2, z3, z4⟩ := R5.unlay b0 f0
      have R6 : Rl K b F5 ⟨d1.sl, d1.own⟩ σ H5 := by
        have := z1.blk (sl := d1.sl) (σ' := σ) R2.len fun i x e => by
          obtain ⟨v, h1, h2⟩ := R2.slots i x e
          exact ⟨v, h1, h2.mono s25⟩
        rw [eo] at this
        exact this
      refine ⟨fun j k H => k = items1.length - j ∧ j ≤ items1.length ∧ ∃ F6 acc' us', Same F5 F6 ∧ F6 D = none ∧ Rl K b F6 ⟨d1.sl, d1.own⟩ σ H ∧ H D = some (.lst us') ∧ RelL K F6 acc' us' ∧ Iv1 j acc',
        ⟨items1.length, by simp, Nat.zero_le _, F5, acc, us, Same.refl F5, z3, R6, z2, ru.mono s25, j0⟩, ?_⟩
      rintro j k H6 ⟨rfl, hj, F6, acc', us', s6, fD6, R6, hDl6, ru6, iv6⟩
      have Rc : Rl K ⟨upd b.B D (.lst us'), b.F0⟩ F6 ⟨wipeD d5.sl vs1, d5.own⟩ (wipe σ4 vs1) H6 := by
        rw [eo]
        exact (R6.blk (sl := wipeD d5.sl vs1) (σ' := wipe σ4 vs1) (by rw [wipeD_len, wipe_len']; exact R5.len) (wipeD_wipe fun i x e => by
          obtain ⟨v, h1, h2⟩ := R5.slots i x e
          exact ⟨v, h1, h2.mono s6⟩)).lay fD6 oD hDl6 (nol us')
      by_cases hlt1 : j < items1.length
      · refine .inr ⟨w1.goes j F6 _ _ H6 hlt1 s6 Rc (hG1 _), fun H' => ∃ F7 acc' us', Same F5 F7 ∧ F7 D = none ∧ Rl K b F7 ⟨d1.sl, d1.own⟩ σ H' ∧ H' D = some (.lst us') ∧ RelL K F7 acc' us' ∧ Iv1 (j + 1) acc',
          fun H' h' => ⟨_, by omega, rfl, hlt1, h'⟩, fun v1 H7 hy1 => ?_⟩
        obtain ⟨F7, x1, ex1, s7, R7, r7⟩ := w1.yields j F6 _ _ H6 v1 H7 hlt1 s6 Rc (hG1 _) hy1
        have tq1 := (turn1 _ j x1 acc' ex1 iv6).get R7 r7
        refine hm1 _ _ _ _ _ (fun σ8 H8 z => ?_) (hw1 v1 (wipe σ4 vs1) H7 _ tq1)
        obtain ⟨ew1, F8, d8, s8, R8, q8⟩ := z
        refine ⟨by rw [ew1]; exact wipe_wipe σ4 vs1, ?_⟩
        (dsimp only [tYes]; rw [if_pos rfl])
        refine q8 F8 σ8 H8 R8 _ fun y H9 F9 yd d9 s9 R9 r9 ⟨eo9, hl9, q9⟩ => ?_
        have sa := (s7.trans s8).trans s9
        obtain ⟨y1, y2, y3, y4⟩ := R9.unlay b0 f0
        have R10 : Rl K b F9 ⟨d1.sl, d1.own⟩ σ H9 := by
          have := y1.blk (sl := d1.sl) (σ' := σ) R6.len fun i x e => by
            obtain ⟨v, h1, h2⟩ := R6.slots i x e
            exact ⟨v, h1, h2.mono sa⟩
          rw [eo9] at this
          exact this
        refine ⟨us', y2, Nat.lt_of_lt_of_le (show us'.length < 100000 by rw [ru6.len]; exact hl9) (by decide), F9, acc' ++ [yd], us' ++ [y], s6.trans sa, y3, ?_, upd_same, (ru6.mono sa).append (.one r9), q9⟩
        refine ⟨fun a u e => ?_, fun a u e => ?_, R10.old, R10.new, fun a x e => ?_, R10.len, R10.slots, R10.nb, R10.nt, R10.tabs.write y2 (fun _ z => nomatch z) (fun _ _ z => by cases z)⟩
        · rw [upd_ne (ne_of_none e b0)]; exact R10.base a u e
        · rw [upd_ne (ne_of_none e y3)]; exact R10.sub a u e
        · obtain ⟨w1, w2, w3⟩ := R10.own a x e
          exact ⟨w1, w2, w3.at (upd_ne fun q => by subst q; rw [show d1.own a = some x from e] at oD; cases oD)⟩
      · have e : j = items1.length := by omega
        subst e
        exact .inl ⟨w1.stops F6 _ _ H6 s6 Rc (hG1 _), F6, acc', us', s2.trans (s25.trans s6), fD6, R6, hDl6, ru6, done1 acc' iv6⟩
    · have e : i = items.length := by omega
      subst e
      refine .inl ⟨w.stops F2 ⟨wipeD d1.sl vs, d1.own⟩ (wipe σ vs) H2 s2 Rb (hG _), kk (.ref D) H2 F2 (.ptr D) ⟨d1.sl, d1.own.put D (.lst acc)⟩ (s1.trans s2) ?_ relPtr (done acc iv D oD)⟩
      refine ⟨R2.base, R2.sub, R2.old, R2.new, fun a x e => ?_, R2.len, R2.slots, R2.nb, R2.nt, R2.tabs⟩
      by_cases h : a = D
      · subst h
        have e : some (Ow.lst acc) = some x := by rw [← e]; exact Own.put_same.symm
        cases e
        exact ⟨fD, b0, us, hDl, ru⟩
      · have e : d1.own a = some x := by rw [← e]; exact (Own.put_ne h).symm
        exact R2.own a x e
/-- a name of an owned list: the list frozen, the name telling it -/
theorem dx_frzS {t : TS} {a : Addr} {xs : List Dt} (h : d.sl[k]? = some (some (.ptr a))) (ho : d.own a = some (.lst xs)) (q : DX K b t ⟨d.sl.set k (some (.lst xs)), d.own.del a⟩ E) : DX K b t d E := fun F σ H R D kk => by
  obtain ⟨v, h1, h2⟩ := R.slots k _ h
  obtain ⟨_, _, vs, h3, h4⟩ := R.own a _ ho
  obtain ⟨e, R'⟩ := R.freeze ho h3
  have h2 : v = .ref a := by simpa only [Rel] using h2
  subst h2
  have R2 := R'.set k (x := .lst xs) (v := .ref a) (relLst (.inl (.inl upd_same)) (h4.mono e))
  have es : σ.set k (some (.ref a)) = σ := by
    apply List.ext_getElem?
    intro n
    by_cases z : k = n
    · subst z
      have hl : k < σ.length := (List.getElem?_eq_some_iff.mp h1).1
      rw [List.getElem?_set_self hl, h1]
    · rw [List.getElem?_set_ne z]
  rw [es] at R2
  exact q _ σ H R2 D (kk.mono e)
end
end DL
/-! DGap3 -/
set_option Elab.async false
set_option linter.all false
set_option maxRecDepth 100000
set_option maxHeartbeats 1000000
/-! The data layer, what lacks: small built-ins. -/
namespace DL
open PySem PySem.Spec PyProof.Rows L2 RZ
section
variable {X : Cx} {K : PySem.W.Frag} {b : Bs} {d : St} {Q : Dt → St → Prop} {QB : Bool → St → Prop} {ta tb te tc : TE} {tt tu : TT} {x y : Dt} {i j : Int} {k : Nat} {E : En}
/-! ### sum of a tuple of ints -/
def rSumT (K : PySem.W.Frag) : List V → Hp → VK → Prop := fun vs H Q => ∃ (a : Addr) (ns : List Int), vs = [V.ref a] ∧ SqT K H a (ns.map V.int) ∧ Q (.int ns.sum) H
theorem cr_sumT (hc : X.calm = true) : CallR X (.builtin "sum") (rSumT X.K) := by
  intro pins s σ H vs us Q I r h
  obtain ⟨a, ns, rfl, hs, q⟩ := h
  obtain ⟨its, rv, hl, _⟩ := I.tuple hs
  rw [Vals.ref1 r]
  have hl : s.heap.IsTuple a its.toArray := hl
  have hi := rv.ints
  obtain ⟨xs, e⟩ := hi.allInts.items
  have hn : numsOf (intItems xs).toList = ns := by rw [← e]; exact hi.numsOf
  rw [nums_intItems] at hn
  rw [e] at hl
  refine PySem.W.ktm_sumG (I.ok.hd hc) hl fun h' tk t' hk => ?_
  rw [preSum_eq, List.take_of_length_le (by simp), hn]
  exact ⟨.int _, H, I.kept hk, ⟨_, rfl⟩, q⟩
theorem dc_sumT {ns : List Int} (q : Q (.int ns.sum) d) : DC K b (rSumT K) [.tup (ns.map Dt.int)] d Q := fun F σ H R vs r P kk => by
  obtain ⟨v, e, rv⟩ := one_of r
  simp only [Rel] at rv
  obtain ⟨p, us, e2, h1, h2⟩ := rv
  subst e; subst e2
  rw [relL_ints h2] at h1
  exact ⟨p, ns, rfl, sqt_mono R.sub h1, kk _ H F _ d (Same.refl F) R relInt q⟩
/-! ### len of an own instance -/
def rLenOwn (C : Addr) (sp : Sp) : List V → Hp → VK → Prop := fun xs H Q => ∃ a dx fs, xs = [.ref a] ∧ H a = some (.ins C dx fs) ∧ sp [.ref a] H (fun v H2 => ∃ n : Nat, v = .int n ∧ n < 100000 ∧ Q (.int n) H2) E0
theorem cr_lenOwn {f C : Addr} {fd : FuncData} {ps : List Str} {sp : Sp} (F : FnOk X.prog X.w X.K X.mg X.base CX0 k f fd ps sp) (hr : Room (k + 1) X.A) (hb : Binds X.K fd ps []) (hm : Meth X.K C "__len__" f) : CallR X (.builtin "len") (rLenOwn C sp) := by
  intro pins s σ H xs us Q I r h
  obtain ⟨a, dx, fs, rfl, ha, h⟩ := h
  obtain ⟨u, rfl, rx⟩ := vals1 r
  obtain rfl : u = Value.ref a := rx
  obtain ⟨mA, O, _⟩ := ins_get I.hok ha
  obtain ⟨od, J, _⟩ := O.look
  have hl : ([Value.ref a] ++ []).length = ps.length := by
    have := F.len _ _ _ _ h
    exact this
  have hcall : wpAny (model X.prog X.w) X.A.in1 (call (.ref f) [.ref a]) (fun v s' => ∃ n u, v = .int n u ∧ 0 ≤ n ∧ n < 2 ^ 63 ∧ EP X pins σ Q (.int n s'.toks) { s' with toks := s'.toks + 1 }) X.xe s := by
    refine wpAny_call (codeAny_mono (F.run X.A.in1 X.stack s H ⟨[.ref a], []⟩ [.ref a] [.ref a] _ _ hr.in1 I.env0.in1 (hb s [.ref a] I.kIn hl) (.cons rfl .nil) h) fun r s' hq => ?_)
    cases r with
    | error e => exact (pass0 (X := X)) pins σ H s e s' I hq
    | ok fl =>
      cases fl with
      | ret u =>
        obtain ⟨v, H', I2, rv, n, ev, hn, q⟩ := I.after hq
        subst ev
        obtain ⟨t, rfl⟩ := rv
        exact ⟨(n : Int), t, rfl, by omega, by omega, .int n, H', I2.tok _, ⟨_, rfl⟩, q⟩
      | next => exact False.elim hq
      | brk => exact False.elim hq
      | cont => exact False.elim hq
  refine Calls.call_function_entry kind_len plain_len entry_len (args_len1 _) ?_
  unfold Builtin.«len»
  refine wpAny_bind (m := oneArg "len" _) (wpAny_pure ?_)
  refine wpAny_bind (m := callSpecial? (.ref a) (Str.ofString "__len__")) (PySem.W.special_fn I.kIn J hm.at_ (beq_iff_eq.mp hm.fn) (wpAny_mono hcall (fun r s' hr => ?_) fun _ _ y => y))
  obtain ⟨n, u, rfl, h0, h1, hq⟩ := hr
  refine wpAny_bind (wpAny_holding (wpAny_pure ?_))
  refine wpAny_bind (wpAny_letGo ?_)
  show wpAny _ _ (if n < 0 then _ else _) _ _ _
  rw [if_neg (by omega)]
  show wpAny _ _ (if n ≥ 2 ^ 63 then _ else _) _ _ _
  rw [if_neg (by omega)]
  exact wpAny_bind (wpAny_mkInt (wpAny_pure ⟨_, rfl, hq⟩))
theorem dc_lenOwn {C : Addr} {pr : PrP} {fs : List (Str × Dt)} (h : pr [.ins C fs] fun r => ∃ n : Nat, r = .int n ∧ n < 100000 ∧ Q (.int n) d) : DC K b (rLenOwn C (spP K pr)) [.ins C fs] d Q := fun F σ H R vs r P kk => by
  obtain ⟨v, e, rv⟩ := one_of r
  have rv0 := rv
  simp only [Rel] at rv
  obtain ⟨p, dx, us, e2, h1, h2⟩ := rv
  subst e; subst e2
  refine ⟨p, dx, us, rfl, R.sub _ _ h1, call_pure (Q := fun r d' => ∃ n : Nat, r = .int n ∧ n < 100000 ∧ Q (.int n) d') R (.one rv0) h (fun v H' F' x d' s R' r' ⟨n, e, hn, q⟩ => ?_) _⟩
  subst e
  exact ⟨n, by simpa only [Rel] using r', hn, kk _ H' F' (.int n) d' s R' relInt q⟩
/-! ### tuples of ints without a dict -/
theorem sqt_x {F H : Hp} {p : Addr} {o : Obj} {ns : List V} (s : Same F H) (h : F p = some (.frz o (.tup ns))) : SqT K H p ns := .inl (.inr ⟨o, s _ _ h⟩)
theorem dc_lenX {ns : List Int} (q : Q (.int ns.length) d) : DC K b (rLen K) [.tupx ns] d Q := fun F σ H R vs r P kk => by
  obtain ⟨v, e, rv⟩ := one_of r
  simp only [Rel] at rv
  obtain ⟨p, o, e2, h1, h2⟩ := rv
  subst e; subst e2
  exact ⟨_, ns.length, rfl, .inr ⟨ns.map V.int, sqt_x R.sub h1, by rw [List.length_map]⟩, kk _ H F (.int ns.length) d (Same.refl F) R relInt q⟩
theorem dr_inX {ns : List Int} (q : Q (.bl (decide (i ∈ ns))) d) : DR K b (rIn K false) (.int i) (.tupx ns) d Q := fun F σ H R vx vy h1 h2 P kk => by
  simp only [Rel] at h1 h2
  obtain ⟨p, o, e2, h3, h4⟩ := h2
  subst h1; subst e2
  refine ⟨p, ns.map V.int, rfl, .inr (sqt_x R.sub h3), rfl, flat_ints ns, ?_⟩
  rw [inV_int]
  exact kk _ H F _ d (Same.refl F) R relBl q
/-- row.index(i), row such a tuple -/
def tIxX (ta : TE) (t : TA) : TE := fun σ H Q => ta σ H fun x H1 => ∃ p o, ∃ ns : List Int, x = .ref p ∧ H1 p = some (.frz o (.tup (ns.map V.int))) ∧ o.dict = none ∧ t σ H1 fun vs H2 => ∃ (j : Nat) (i : Int), vs = [.int i] ∧ H2 p = some (.frz o (.tup (ns.map V.int))) ∧ ns[j]? = some i ∧ (∀ m, m < j → ns[m]? ≠ some i) ∧ Q (.int j) H2
theorem pe_ixX {o e : Expr} {apos cpos : Pos} (ho : PE X o ta) (ha : PE X e te)
    (hbase : attributeBase o "index" X.env (eval o X.env) = eval o X.env := by rfl)
    (hfew : ((backTo cpos (starEach [e] X.env)).all (fun x => !x.1) && (backToKw cpos (keywordEach [] X.env)).all (fun x => x.1.isSome)
      && decide ([e].length + ([] : List Keyword).length + (if ([] : List Keyword).isEmpty then 0 else 1) < 30)) = true := by rfl)
    (hline : (apos.endLine == cpos.line) = true := by rfl) (hs : starEach [e] X.env = (false, eval e X.env) :: starEach [] X.env := by rfl) (hplain : (backTo cpos (starEach [] X.env)).any (·.1) = false := by rfl) :
    PE X (.Call (.Attribute o "index" apos) [e] [] cpos) (tIxX ta (tCons te tNil)) := by
  refine ⟨fun pins s σ H Q I h => ?_⟩
  refine wpAny_Call_method_late hbase hfew hline rfl (thn (ho.run pins s σ H _ I h) fun v s1 ⟨x, H1, I1, r1, p, ob, ns, ex, hp, hd, q1⟩ => ?_)
  subst ex
  obtain rfl : v = Value.ref p := r1
  have ok := I1.hok p _ hp
  obtain ⟨hob, hz, its, rv, oo, hoo, hcl, n, hdt⟩ := ok
  rw [hob] at hoo
  obtain rfl := Option.some.inj hoo
  refine ⟨"tuple", _, PySem.F.plainAttrs_tuple, PySem.F.slot_tuple_index, PySem.F.type_tuple_index, ⟨ob, hob, hcl⟩, fun a ea => by cases ea; exact ⟨ob, hob, hd⟩, ?_⟩
  have hA := (pa_cons (hs := hs) ha pa_nil).run cpos pins s1 σ H1 _ I1 q1
  rw [hs] at hA ⊢
  refine Calls.callWith_builtin (by show (false || (backTo cpos (starEach [] X.env)).any (·.1)) = false; rw [hplain] <;> rfl) (Calls.evalArgs_plain ?_)
  refine thn hA fun us s2 ⟨vs, H2, I2, r2, j, i, ev, hp2, hj, hno, q⟩ => ?_
  subst ev
  obtain ⟨u, rfl, t, rfl⟩ := vals1 r2
  obtain ⟨hob2, hz2, its2, rv2, oo2, hoo2, hcl2, n2, hdt2⟩ := I2.hok p _ hp2
  rw [hob2] at hoo2
  obtain rfl := Option.some.inj hoo2
  obtain ⟨cls, dd, dt, sl⟩ := ob
  simp only at hcl2 hdt2 hd
  subst hcl2; subst hdt2; subst hd
  have hl : its2.toArray.size = ns.length := by rw [List.size_toArray, ← rv2.length, List.length_map]
  have hj' : j < its2.toArray.size := by rw [hl]; exact (List.getElem?_eq_some_iff.mp hj).1
  have at' : ∀ (m : Nat) (hm : m < its2.toArray.size), ∃ y t', ns[m]? = some y ∧ its2.toArray[m] = Value.int y t' := fun m hm => by
    have hm' : m < ns.length := by rw [← hl]; exact hm
    obtain ⟨w, hw, t', hw'⟩ := rv2.get (i := m) (x := .int ns[m]) (by simp [hm'])
    refine ⟨ns[m], t', List.getElem?_eq_getElem hm', ?_⟩
    have e := (List.getElem?_eq_some_iff.mp hw).2
    rw [← hw', ← e]
    simp
  refine call_meets PySem.F.slot_tuple_index ⟨_, hob2, rfl⟩ PySem.F.entry_tuple_index (PySem.F.args_tuple_index_2 _ _) (_root_.TI.tuple_indexAt p its2.toArray n2 none sl (.int i t) (eqU (.int i)) j hj' ?_ ?_)
    ⟨hob2, fun w hw => mem_eqAt (x := .int i) ⟨t, rfl⟩ rfl rv2 (flat_ints ns) w (by simpa using hw), ⟨.int (j : Nat), H2, I2.tok _, ⟨_, rfl⟩, q⟩⟩
  · obtain ⟨y, t', h1, h2⟩ := at' j hj'
    rw [hj] at h1
    cases h1
    rw [h2]
    show (i == i) = true
    exact beq_self_eq_true i
  · intro m hm hmj
    obtain ⟨y, t', h1, h2⟩ := at' m hm
    rw [h2]
    show (y == i) = false
    exact beq_eq_false_iff_ne.mpr fun e => hno m hmj (e ▸ h1)
theorem de_ixX {ns : List Int} (h : DE K b ta d fun x d1 => x = .tupx ns ∧ DE K b te d1 fun y d2 => ∃ (j : Nat) (i : Int), y = .int i ∧ ns[j]? = some i ∧ (∀ m, m < j → ns[m]? ≠ some i) ∧ Q (.int j) d2) : DE K b (tIxX ta (tCons te tNil)) d Q := fun F σ H R P kk =>
  h F σ H R _ fun v H1 F1 x d1 s1 R1 r1 ⟨ex, q⟩ => by
    subst ex
    simp only [Rel] at r1
    obtain ⟨p, o, e, h1, h2⟩ := r1
    subst e
    refine ⟨p, o, ns, rfl, R1.sub _ _ h1, h2, q F1 σ H1 R1 _ fun w H2 F2 y d2 s2 R2 r2 ⟨j, i, ey, hj, hno, q2⟩ => ?_⟩
    subst ey
    have r2 : w = .int i := by simpa only [Rel] using r2
    subst r2
    exact ⟨j, i, rfl, R2.sub _ _ (s2 _ _ h1), hj, hno, kk _ H2 F2 (.int j) d2 (s1.trans s2) R2 relInt q2⟩
/-! ### xs[i] += e, a list -/
def rGetL (K : PySem.W.Frag) : V → V → Hp → VK → Prop := fun o i H Q => ∃ p xs k v, o = .ref p ∧ i = .int k ∧ SqL K H p xs ∧ 0 ≤ k ∧ xs[k.toNat]? = some v ∧ Q v H
theorem get_list (hK : X.K = K) : PGet X (rGetL K) := by
  subst hK
  intro pins s σ H o i ov iv Q I ro ri h
  obtain ⟨p, xs, k, v, rfl, rfl, hq, h0, he, q⟩ := h
  cases ro
  obtain ⟨t, rfl⟩ := ri
  obtain ⟨its, r, pl, hz⟩ := I.list hq
  obtain ⟨w, ew, rw'⟩ := r.get he
  have hl := r.length
  have hn := line63
  have hlt := (List.getElem?_eq_some_iff.mp he).1
  exact wpAny_getItem_list pl.isList h0 (by omega) (by simpa using ew) ⟨v, H, I, rw', q⟩
theorem dx_augS {f : Int → Int → Int} (h : DE K b ta d fun o d1 => ∃ a, o = .ptr a ∧ DE K b tb d1 fun iy d2 => ∃ (n : Nat) (u : Int) (xs : List Dt), iy = .int n ∧ d2.own a = some (.lst xs) ∧ xs[n]? = some (.int u) ∧
    DE K b te d2 fun y d3 => ∃ (c : Int) (ys : List Dt), y = .int c ∧ d3.own a = some (.lst ys) ∧ n < ys.length ∧ E.nx ⟨d3.sl, d3.own.put a (.lst (ys.set n (.int (f u c))))⟩) : DX K b (tAugS ta tb te (rGetL K) (ipI f) rSetL) d E := fun F σ H R D kk =>
  h F σ H R _ fun v1 H1 F1 o d1 s1 R1 r1 ⟨a, e1, q1⟩ => q1 F1 σ H1 R1 _ fun v2 H2 F2 iy d2 s2 R2 r2 ⟨n, u, xs, e2, ho, hx, q2⟩ => by
    subst e1; subst e2
    have r1 : v1 = .ref a := by simpa only [Rel] using r1
    have r2 : v2 = .int (n : Nat) := by simpa only [Rel] using r2
    subst r1; subst r2
    obtain ⟨_, _, vs, h3, h4⟩ := R2.own a _ ho
    obtain ⟨w, h5, h6⟩ := h4.get hx
    have h6 : w = .int u := by simpa only [Rel] using h6
    subst h6
    refine ⟨a, vs, (n : Int), .int u, rfl, rfl, SqL.of h3, by omega, by simpa using h5, q2 F2 σ H2 R2 _ fun v3 H3 F3 y d3 s3 R3 r3 ⟨c, ys, e3, ho3, hn, q3⟩ => ?_⟩
    subst e3
    have r3 : v3 = .int c := by simpa only [Rel] using r3
    subst r3
    obtain ⟨_, _, us, h7, h8⟩ := R3.own a _ ho3
    refine ⟨u, c, rfl, rfl, a, us, (n : Int), n, rfl, rfl, h7, ?_, kk.nx σ _ F3 _ ((s1.trans s2).trans s3) (R3.write ho3 (x := .lst (ys.set n (.int (f u c)))) ⟨_, upd_same, h8.set relInt⟩) q3⟩
    rw [h8.len]
    unfold ixN
    rw [if_pos (by omega), if_pos (by omega)]
    simp
/-! ### [x, *xs] -/
theorem de_star (h : DE K b ta d fun x d1 => DE K b tb d1 fun o d2 => ∃ xs, o = .lst xs ∧ xs.length ≤ 1000 ∧ Q (.lst (x :: xs)) d2) : DE K b (tLst (tCons ta (StX.tStar K tb tNil))) d Q := fun F σ H R P kk =>
  h F σ H R _ fun v1 H1 F1 x d1 s1 R1 r1 q1 => q1 F1 σ H1 R1 _ fun v2 H2 F2 o d2 s2 R2 r2 ⟨xs, e, hl, q⟩ => by
    subst e
    simp only [Rel] at r2
    obtain ⟨p, us, e2, h1, h2⟩ := r2
    subst e2
    refine ⟨p, us, rfl, .inr (R2.sub.seq h1), ?_⟩
    show _ ∧ _
    rw [List.append_nil]
    refine ⟨Nat.le_trans (show us.length + 1 ≤ 1001 by rw [h2.len]; omega) (by decide), fun p hp => ?_⟩
    obtain ⟨e, R'⟩ := R2.frz hp (.lst (v1 :: us)) (fun _ z => nomatch z)
    exact kk (.ref p) _ _ (.lst (x :: xs)) d2 ((s1.trans s2).trans e) R' (relLst (.inl (.inl upd_same)) (.cons (r1.mono (s2.trans e)) (h2.mono e))) q
/-! ### xs += ys, lists -/
theorem dx_augE {n : Nat} {a : Addr} (h : d.sl[n]? = some (some (.ptr a))) (he : DE K b te d fun y d1 => ∃ c xs ys, y = .ptr c ∧ d1.own a = some (.lst xs) ∧ d1.own c = some (.lst ys) ∧ xs.length + ys.length ≤ 100000 ∧ E.nx ⟨d1.sl.set n (some (.ptr a)), d1.own.put a (.lst (xs ++ ys))⟩) : DX K b (tAug n te rExt2) d E := fun F σ H R D kk => by
  obtain ⟨v, h1, h2⟩ := R.slots n _ h
  have h2 : v = .ref a := by simpa only [Rel] using h2
  subst h2
  refine ⟨_, h1, he F σ H R _ fun u H1 F1 y d1 s1 R1 r1 ⟨c, xs, ys, e, ho, hc, hz, q⟩ => ?_⟩
  subst e
  have r1 : u = .ref c := by simpa only [Rel] using r1
  subst r1
  obtain ⟨_, _, us, h3, h4⟩ := R1.own a _ ho
  obtain ⟨_, _, ws, h5, h6⟩ := R1.own c _ hc
  refine ⟨a, c, us, ws, rfl, rfl, h3, h5, Nat.le_trans (by rw [h4.len, h6.len]; exact hz) (by decide), kk.nx _ _ F1 _ s1 ((R1.write ho (x := .lst (xs ++ ys)) ⟨_, upd_same, h4.append h6⟩).set n relPtr) q⟩
/-! ### tuples: joined, compared -/
theorem dr_catT {xs ys : List Dt} (h0 : xs ≠ []) (hy : ys ≠ []) (hz : xs.length + ys.length ≤ 100000) (q : Q (.tup (xs ++ ys)) d) : DR K b (rCatT K) (.tup xs) (.tup ys) d Q := fun F σ H R _ _ h1 h2 P kk => by
  simp only [Rel] at h1 h2
  obtain ⟨p, us, e, h3, h4⟩ := h1
  obtain ⟨p', ws, e', h5, h6⟩ := h2
  refine ⟨p, p', us, ws, e, e', sqt_mono R.sub h3, sqt_mono R.sub h5, fun z => ?_, Nat.le_trans (by rw [h4.len, h6.len]; exact hz) (by decide), fun z => ?_, fun _ l hl => ?_⟩
  · have := h4.len; rw [z] at this; exact h0 (List.length_eq_zero_iff.mp this.symm)
  · have := h6.len; rw [z] at this; exact absurd (List.length_eq_zero_iff.mp this.symm) hy
  · obtain ⟨e, R'⟩ := R.frz hl (.tup (us ++ ws)) (fun _ z => nomatch z)
    exact kk (.ref l) _ _ _ d e R' (relTup (.inl (.inl upd_same)) ((h4.mono e).append (h6.mono e))) q
theorem dp_pair {F H : Hp} {v : V} {i j : Int} (s : Same F H) (h : Rel K F (.tup [.int i, .int j]) v) : Dp K H v (.tuple [.int i, .int j]) := by
  simp only [Rel] at h
  obtain ⟨p, us, e, h1, h2⟩ := h
  subst e
  obtain ⟨a, c, e, h3, h4⟩ := two_of h2
  subst e
  have h3 : a = .int i := by simpa only [Rel] using h3
  have h4 : c = .int j := by simpa only [Rel] using h4
  subst h3; subst h4
  exact .tup (sqt_mono s h1) (.cons (.int i) (.cons (.int j) .nil))
theorem eqv_pair (a b c e : Int) : PyData.eqv (.tuple [.int a, .int b]) (.tuple [.int c, .int e]) = decide (a = c ∧ b = e) := by
  have := PySem.W.Datum.eqv (α := Int × Int) (a, b) (c, e)
  rw [show decide (a = c ∧ b = e) = decide ((a, b) = (c, e)) from decide_eq_decide.mpr (by simp)]
  exact this
theorem dr_eqP {i' j' : Int} (q : Q (.bl (decide (i = i' ∧ j = j'))) d) : DR K b (rEqD K) (.tup [.int i, .int j]) (.tup [.int i', .int j']) d Q := fun F σ H R vx vy h1 h2 P kk => by
  refine ⟨_, _, dp_pair R.sub h1, dp_pair R.sub h2, rfl, rfl, ?_⟩
  rw [eqv_pair]
  exact kk _ H F _ d (Same.refl F) R relBl q
theorem dr_neP {i' j' : Int} (q : Q (.bl (!decide (i = i' ∧ j = j'))) d) : DR K b (rNeD K) (.tup [.int i, .int j]) (.tup [.int i', .int j']) d Q := fun F σ H R vx vy h1 h2 P kk => by
  refine ⟨_, _, dp_pair R.sub h1, dp_pair R.sub h2, rfl, rfl, ?_⟩
  rw [eqv_pair]
  exact kk _ H F _ d (Same.refl F) R relBl q
/-! ### a text among texts -/
theorem inV_str (z : Str) : ∀ ns : List Str, inV (.str z) (ns.map V.str) = decide (z ∈ ns)
  | [] => by simp [inV]
  | n :: ns => by
    have ih := inV_str z ns
    unfold inV at ih ⊢
    rw [List.map_cons, List.any_cons, ih]
    by_cases e : z = n
    · subst e; simp [eqV]
    · have : eqV (V.str n) (V.str z) = false := by
        show (n == z) = false
        exact beq_eq_false_iff_ne.mpr fun q => e q.symm
      simp [this, e]
theorem relL_strs {F : Hp} : ∀ {ns : List Str} {vs : List V}, RelL K F (ns.map Dt.str) vs → vs = ns.map V.str
  | [], vs, h => by simpa only [List.map_nil, RelL] using h
  | n :: ns, vs, h => by
    simp only [List.map_cons, RelL, Rel] at h
    obtain ⟨v, r, e, e1, h⟩ := h
    rw [e, e1, relL_strs h, List.map_cons]
theorem relL_strsI {F : Hp} : ∀ (ns : List Str), RelL K F (ns.map Dt.str) (ns.map V.str)
  | [] => .nil
  | n :: ns => .cons relStr (relL_strsI ns)
theorem dr_inS {z : Str} {ns : List Str} (q : Q (.bl (decide (z ∈ ns))) d) : DR K b (rIn K false) (.str z) (.tup (ns.map Dt.str)) d Q := fun F σ H R vx vy h1 h2 P kk => by
  simp only [Rel] at h1 h2
  obtain ⟨p, us, e2, h3, h4⟩ := h2
  subst h1; subst e2
  rw [relL_strs h4] at h3
  refine ⟨p, _, rfl, .inr (sqt_mono R.sub h3), rfl, flat_strs ns, ?_⟩
  rw [inV_str]
  exact kk _ H F _ d (Same.refl F) R relBl q
theorem dr_notInS {z : Str} {ns : List Str} (q : Q (.bl (!decide (z ∈ ns))) d) : DR K b (rIn K true) (.str z) (.tup (ns.map Dt.str)) d Q := fun F σ H R vx vy h1 h2 P kk => by
  simp only [Rel] at h1 h2
  obtain ⟨p, us, e2, h3, h4⟩ := h2
  subst h1; subst e2
  rw [relL_strs h4] at h3
  refine ⟨p, _, rfl, .inr (sqt_mono R.sub h3), rfl, flat_strs ns, ?_⟩
  rw [inV_str]
  exact kk _ H F _ d (Same.refl F) R (by simpa using relBl) q
/-- a constant of the text -/
theorem de_gtup {a : Addr} {ns : List Str} (h : ∀ H, SqT K H a (ns.map V.str)) (q : Q (.tup (ns.map Dt.str)) d) : DE K b (tC (.ref a)) d Q := de_rel (fun F => relTup (h F) (relL_strsI ns)) q
/-- an address of the text, as it is -/
theorem de_gptr {a : Addr} (q : Q (.ptr a) d) : DE K b (tC (.ref a)) d Q := de_rel (fun F => relPtr) q
/-! ### the least of pairs -/
def rMinP (K : PySem.W.Frag) : List V → Hp → VK → Prop := fun vs H Q => ∃ (a : Addr) (xs : List V) (k : V → Int × Int), vs = [V.ref a] ∧ SqL K H a xs ∧ (∀ x ∈ xs, ∃ t, x = V.ref t ∧ SqT K H t [.int (k x).1, .int (k x).2]) ∧ xs ≠ [] ∧
  ∀ x, x ∈ xs → (∀ y, y ∈ xs → (k x).1 ≤ (k y).1) → Q x H
theorem minOf_pairs (p : Int × Int) : ∀ ps : List (Int × Int), PySem.W.minOf p ps ∈ p :: ps ∧ ∀ q, q ∈ p :: ps → (PySem.W.minOf p ps).1 ≤ q.1 := fun ps => by
  unfold PySem.W.minOf
  induction ps generalizing p with
  | nil => exact ⟨List.mem_cons_self, fun q hq => by rw [List.mem_singleton.mp hq]; exact Int.le_refl _⟩
  | cons y ys ih =>
    rw [List.foldl_cons]
    by_cases h : PySem.W.DatumOrd.lt y p = true
    · rw [if_pos h]
      obtain ⟨h1, h2⟩ := ih y
      refine ⟨List.mem_cons_of_mem _ h1, fun q hq => ?_⟩
      rcases List.mem_cons.mp hq with e | hq
      · have h3 := h2 y List.mem_cons_self
        have h4 : y.1 ≤ p.1 := by
          have h : (if y.1 = p.1 then PySem.W.DatumOrd.lt y.2 p.2 else PySem.W.DatumOrd.lt y.1 p.1) = true := h
          split at h
          · omega
          · have h : decide (y.1 < p.1) = true := h
            have := of_decide_eq_true h
            omega
        subst e
        exact Int.le_trans h3 h4
      · exact h2 q hq
    · rw [if_neg h]
      obtain ⟨h1, h2⟩ := ih p
      have h4 : p.1 ≤ y.1 := by
        have h : ¬ (if y.1 = p.1 then PySem.W.DatumOrd.lt y.2 p.2 else PySem.W.DatumOrd.lt y.1 p.1) = true := h
        split at h
        · omega
        · have h : ¬ decide (y.1 < p.1) = true := h
          simp only [decide_eq_true_eq] at h
          omega
      refine ⟨?_, fun q hq => ?_⟩
      · rcases List.mem_cons.mp h1 with e | h1
        · rw [e]; exact List.mem_cons_self
        · exact List.mem_cons_of_mem _ (List.mem_cons_of_mem _ h1)
      · rcases List.mem_cons.mp hq with e | hq
        · subst e; exact h2 q List.mem_cons_self
        · rcases List.mem_cons.mp hq with e | hq
          · subst e; exact Int.le_trans (h2 p List.mem_cons_self) h4
          · exact h2 q (List.mem_cons_of_mem _ hq)
theorem cr_minP (hc : X.calm = true) (hu : X.A.units + 64 < cLine) : CallR X (.builtin "min") (rMinP X.K) := by
  intro pins s σ H vs us Q I r h
  obtain ⟨a, xs, k, rfl, hs, hx, hne, q⟩ := h
  obtain ⟨its, rv, hl, _⟩ := I.list hs
  rw [Vals.ref1 r]
  have pair : ∀ x u, x ∈ xs → RelV x u → PySem.W.Holds s.heap u (k x) := fun x u hm ru => by
    obtain ⟨t, e, ht⟩ := hx x hm
    rw [e] at ru
    obtain rfl : u = Value.ref t := ru
    obtain ⟨ws, r2, ht2, _⟩ := I.tuple ht
    obtain ⟨w1, w2, rfl, q1, q2⟩ := vals2 r2
    obtain ⟨t1, rfl⟩ := q1
    obtain ⟨t2, rfl⟩ := q2
    exact PySem.W.holds_pair (x := (k x).1) (y := (k x).2) (show s.heap.IsTuple t #[_, _] from ht2) ⟨_, .int _ _⟩ ⟨_, .int _ _⟩
  have all : ∀ (l : List V) (us : List Value), (∀ x ∈ l, x ∈ xs) → Vals l us → PySem.W.HoldAll s.heap us (l.map k) := by
    intro l us hm hv
    induction hv with
    | nil => exact PySem.W.HoldAll.nil
    | cons rr tt ih => exact PySem.W.HoldAll.cons (pair _ _ (hm _ List.mem_cons_self) rr) (ih fun x hx => hm x (List.mem_cons_of_mem _ hx))
  cases xs with
  | nil => exact absurd rfl hne
  | cons x0 xs0 =>
    have ha := all (x0 :: xs0) its (fun _ h => h) rv
    have hu' : X.A.units + 1 + PySem.W.Datum.depth (Int × Int) < cLine := by
      have h4 : PySem.W.Datum.depth (Int × Int) ≤ 4 := by decide
      omega
    refine PySem.W.min_list_datum (α := Int × Int) (I.ok.hd hc) hl.isList (x := k x0) (xs := xs0.map k) (by simpa using ha) hu' fun i v h' tk hv hh hk => ?_
    have hv : its[i]? = some v := by simpa using hv
    have hil : i < (x0 :: xs0).length := by
      rw [rv.length]; exact (List.getElem?_eq_some_iff.mp hv).1
    obtain ⟨u, hu1, ru⟩ := rv.get (List.getElem?_eq_getElem hil)
    rw [hv] at hu1
    obtain rfl := Option.some.inj hu1
    have hm : (x0 :: xs0)[i] ∈ x0 :: xs0 := List.getElem_mem hil
    have hp : PySem.W.Holds h' v (k (x0 :: xs0)[i]) := by
      obtain ⟨as, z⟩ := pair _ _ hm ru
      exact ⟨as, PySem.W.reads_keeps hk z⟩
    have e : k (x0 :: xs0)[i] = PySem.W.minOf (k x0) (xs0.map k) := by
      generalize PySem.W.minOf (k x0) (xs0.map k) = m at hh
      generalize k (x0 :: xs0)[i] = n at hp
      obtain ⟨l1, a1, b1, e1, t1, g1, g2⟩ := PySem.W.pair_of_holds hp
      obtain ⟨l2, a2, b2, e2, t2, g3, g4⟩ := PySem.W.pair_of_holds hh
      obtain ⟨t3, ea1⟩ := PySem.W.int_of_holds g1
      obtain ⟨t4, eb1⟩ := PySem.W.int_of_holds g2
      obtain ⟨t5, ea2⟩ := PySem.W.int_of_holds g3
      obtain ⟨t6, eb2⟩ := PySem.W.int_of_holds g4
      rw [e1] at e2
      injection e2 with e2
      subst e2
      obtain ⟨o1, q1, _, n1, q2⟩ := t1
      obtain ⟨o2, q3, _, n2, q4⟩ := t2
      rw [q1] at q3
      obtain rfl := Option.some.inj q3
      rw [q2] at q4
      injection q4 with q5 _
      have q6 : [a1, b1] = [a2, b2] := by simpa using congrArg Array.toList q5
      injection q6 with q7 q8
      injection q8 with q8 _
      rw [ea1, ea2] at q7
      rw [eb1, eb2] at q8
      injection q7 with q7 _
      injection q8 with q8 _
      exact Prod.ext q7 q8
    obtain ⟨_, hle⟩ := minOf_pairs (k x0) (xs0.map k)
    refine ⟨_, H, I.kept hk, ru, q _ hm fun y hy => ?_⟩
    rw [e]
    exact hle _ (by
      rcases List.mem_cons.mp hy with z | z
      · rw [z]; exact List.mem_cons_self
      · exact List.mem_cons_of_mem _ (List.mem_map_of_mem z))
end
end DL
/-! DGap4 -/
set_option Elab.async false
set_option linter.all false
set_option maxRecDepth 100000
set_option maxHeartbeats 1000000
/-! The data layer, what lacks: the least of pairs, pairs sorted. -/
namespace DL
open PySem PySem.Spec PyProof.Rows L2 RZ
/-- x is a pair of ints -/
def IsP (K : PySem.W.Frag) (H : Hp) (x : V) (p : Int × Int) : Prop := ∃ t, x = V.ref t ∧ SqT K H t [.int p.1, .int p.2]
def rMinPP (K : PySem.W.Frag) : List V → Hp → VK → Prop := fun vs H Q => ∃ (a : Addr) (xs : List V) (ps : List (Int × Int)), vs = [V.ref a] ∧ SqL K H a xs ∧ Paired (IsP K H) xs ps ∧ ps ≠ [] ∧
  ∀ (i : Nat) x p, xs[i]? = some x → ps[i]? = some p → (∀ q, q ∈ ps → p.1 ≤ q.1) → Q x H
def rSortPP (K : PySem.W.Frag) : List V → Hp → VK → Prop := fun vs H Q => ∃ (a : Addr) (xs : List V) (ps : List (Int × Int)), vs = [V.ref a] ∧ SqL K H a xs ∧ Paired (IsP K H) xs ps ∧ xs.length ≤ 100000 ∧
  ∀ (zs : List (V × (Int × Int))) l, zs.Perm (xs.zip ps) → H l = none → Q (.ref l) (upd H l (.lst (zs.map (·.1))))
theorem paired_get {α β : Type} {R : α → β → Prop} : ∀ {l : List α} {m : List β}, Paired R l m → ∀ {i : Nat} {x : α}, l[i]? = some x → ∃ y, m[i]? = some y ∧ R x y
  | _, _, .nil, i, x, h => by simp at h
  | _, _, .cons r t, 0, x, h => ⟨_, rfl, by simpa using (Option.some.inj h) ▸ r⟩
  | _, _, .cons r t, i + 1, x, h => paired_get t (by simpa using h)
section
variable {X : Cx} {pins : List (Addr × Obj)} {σ : L2.St} {H : Hp} {s : Shared}
theorem isP_pair (I : Inv X pins σ H s) {x : V} {p : Int × Int} {u : Value} (h : IsP X.K H x p) (r : RelV x u) : ∃ t t1 t2, u = .ref t ∧ s.heap.IsTuple t #[.int p.1 t1, .int p.2 t2] := by
  obtain ⟨t, e, ht⟩ := h
  subst e
  obtain rfl : u = Value.ref t := r
  obtain ⟨ws, r2, ht2, _⟩ := I.tuple ht
  obtain ⟨w1, w2, rfl, q1, q2⟩ := vals2 r2
  obtain ⟨t1, rfl⟩ := q1
  obtain ⟨t2, rfl⟩ := q2
  exact ⟨t, t1, t2, rfl, ht2⟩
theorem isP_holds (I : Inv X pins σ H s) {x : V} {p : Int × Int} {u : Value} (h : IsP X.K H x p) (r : RelV x u) : PySem.W.Holds s.heap u p := by
  obtain ⟨t, t1, t2, rfl, ht⟩ := isP_pair I h r
  exact PySem.W.holds_pair (x := p.1) (y := p.2) ht ⟨_, .int _ _⟩ ⟨_, .int _ _⟩
theorem isP_all (I : Inv X pins σ H s) : ∀ {l : List V} {us : List Value} {ps : List (Int × Int)}, Paired (IsP X.K H) l ps → Vals l us → PySem.W.HoldAll s.heap us ps
  | _, _, _, .nil, .nil => PySem.W.HoldAll.nil
  | _, _, _, .cons a t, .cons r u => PySem.W.HoldAll.cons (isP_holds I a r) (isP_all I t u)
theorem holds_inj {h : Heap} {v : Value} {n m : Int × Int} (hp : PySem.W.Holds h v n) (hh : PySem.W.Holds h v m) : n = m := by
  obtain ⟨l1, a1, b1, e1, t1, g1, g2⟩ := PySem.W.pair_of_holds hp
  obtain ⟨l2, a2, b2, e2, t2, g3, g4⟩ := PySem.W.pair_of_holds hh
  obtain ⟨t3, ea1⟩ := PySem.W.int_of_holds g1
  obtain ⟨t4, eb1⟩ := PySem.W.int_of_holds g2
  obtain ⟨t5, ea2⟩ := PySem.W.int_of_holds g3
  obtain ⟨t6, eb2⟩ := PySem.W.int_of_holds g4
  rw [e1] at e2
  injection e2 with e2
  subst e2
  obtain ⟨o1, q1, _, n1, q2⟩ := t1
  obtain ⟨o2, q3, _, n2, q4⟩ := t2
  rw [q1] at q3
  obtain rfl := Option.some.inj q3
  rw [q2] at q4
  injection q4 with q5 _
  have q6 : [a1, b1] = [a2, b2] := by simpa using congrArg Array.toList q5
  injection q6 with q7 q8
  injection q8 with q8 _
  rw [ea1, ea2] at q7
  rw [eb1, eb2] at q8
  injection q7 with q7 _
  injection q8 with q8 _
  exact Prod.ext q7 q8
end
section
variable {X : Cx}
theorem cr_minPP (hc : X.calm = true) (hu : X.A.units + 64 < cLine) : CallR X (.builtin "min") (rMinPP X.K) := by
  intro pins s σ H vs us Q I r h
  obtain ⟨a, xs, ps, rfl, hs, hx, hne, q⟩ := h
  obtain ⟨its, rv, hl, _⟩ := I.list hs
  rw [Vals.ref1 r]
  cases ps with
  | nil => exact absurd rfl hne
  | cons p0 ps0 =>
    have ha := isP_all I hx rv
    have hu' : X.A.units + 1 + PySem.W.Datum.depth (Int × Int) < cLine := by
      have h4 : PySem.W.Datum.depth (Int × Int) ≤ 4 := by decide
      omega
    refine PySem.W.min_list_datum (α := Int × Int) (I.ok.hd hc) hl.isList (x := p0) (xs := ps0) (by simpa using ha) hu' fun i v h' tk hv hh hk => ?_
    have hv : its[i]? = some v := by simpa using hv
    obtain ⟨u, hu1, ru⟩ := (show ∃ x, xs[i]? = some x ∧ RelV x v from by
      have hil : i < xs.length := by
        rw [rv.length]; exact (List.getElem?_eq_some_iff.mp hv).1
      obtain ⟨u, hu1, ru⟩ := rv.get (List.getElem?_eq_getElem hil)
      rw [hv] at hu1
      obtain rfl := Option.some.inj hu1
      exact ⟨_, List.getElem?_eq_getElem hil, ru⟩)
    obtain ⟨p, hp1, hp2⟩ := paired_get hx hu1
    have hp : PySem.W.Holds h' v p := by
      obtain ⟨as, z⟩ := isP_holds I hp2 ru
      exact ⟨as, PySem.W.reads_keeps hk z⟩
    have e := holds_inj hp hh
    obtain ⟨_, hle⟩ := minOf_pairs p0 ps0
    refine ⟨u, H, I.kept hk, ru, q i u p hu1 hp1 fun y hy => ?_⟩
    rw [e]
    exact hle _ hy
theorem cr_sortPP (hc : X.calm = true) (hu : X.A.units + 64 < cLine) : CallR X (.builtin "sorted") (rSortPP X.K) := by
  intro pins s σ H vs us Q I r h
  obtain ⟨a, xs, ps, rfl, hs, hx, hz, q⟩ := h
  obtain ⟨its, rv, hl, hz'⟩ := I.list hs
  rw [Vals.ref1 r]
  have each : ∀ {l : List V} {us : List Value} {ps : List (Int × Int)}, Paired (IsP X.K H) l ps → Vals l us → PySem.W.EachIs (fun (v : Value) (b : V × (Int × Int)) => RelV b.1 v ∧ ∃ as, Reads s.heap v (PyData.tuple [.int b.2.1, .int b.2.2]) as) us (l.zip ps) := by
    intro l us ps h1 h2
    induction h1 generalizing us with
    | nil => cases h2; exact .nil
    | cons a t ih =>
      cases h2 with
      | cons r u => exact .cons ⟨r, isP_holds I a r⟩ (ih u)
  have e := each hx rv
  refine PySem.W.sorted_data (enc := fun b : V × (Int × Int) => PyData.tuple [.int b.2.1, .int b.2.2]) (R := fun v b => RelV b.1 v) hl.isList (e.mono fun _ _ z => z.1) (e.mono fun _ _ z => z.2) (PySem.W.AllAlike.of fun _ _ => by simp [PySem.W.alike, PySem.W.alikeAll]) (PySem.W.Sortable.tuples fun _ => ⟨_, _, rfl⟩) ?_ (fun b _ => ?_) fun out hlen eo => ?_
  · rw [← e.length, ← rv.length]; exact hz'
  · have hd : (PyData.tuple [.int b.2.1, .int b.2.2]).depth = 1 := by simp [PyData.depth, PyData.depthAll]
    show X.A.units + 2 + (PyData.tuple [.int b.2.1, .int b.2.2]).depth < cLine
    omega
  · have back : ∀ {out : List Value} {zs : List (V × (Int × Int))}, PySem.W.EachIs (fun v b => RelV b.1 v) out zs → Vals (zs.map (·.1)) out := by
      intro out zs h
      induction h with
      | nil => exact .nil
      | cons r t ih => exact .cons r ih
    have pm := List.mergeSort_perm (xs.zip ps) (PySem.W.dataLe false fun b : V × (Int × Int) => PyData.tuple [.int b.2.1, .int b.2.2])
    generalize (xs.zip ps).mergeSort (PySem.W.dataLe false fun b : V × (Int × Int) => PyData.tuple [.int b.2.1, .int b.2.2]) = zs at eo pm
    have hv := back eo
    obtain ⟨n, hn⟩ := sortedAll_at s.heap its out.toArray
    refine ⟨.ref (s.heap.objs.size + 1), upd H (s.heap.objs.size + 1) (.lst (zs.map (·.1))), I.laid (t' := s.toks) (fun b o => sortedAll_old) (Nat.le_succ _) ⟨?_, out, n, hv, hn⟩, rfl, q _ _ pm (I.hok.fresh (Nat.le_succ _))⟩
    rw [hv.length, hlen, ← e.length, ← rv.length]
    exact hz'
end
section
variable {K : PySem.W.Frag} {b : Bs} {d : St} {Q : Dt → St → Prop}
def pairD (p : Int × Int) : Dt := .tup [.int p.1, .int p.2]
theorem relL_pairs {F H : Hp} (s : Same F H) : ∀ {ps : List (Int × Int)} {us : List V}, RelL K F (ps.map pairD) us → Paired (IsP K H) us ps
  | [], us, h => by
    have h : us = [] := h
    subst h; exact .nil
  | p :: ps, us, h => by
    obtain ⟨v, r, e, h1, h2⟩ := h
    subst e
    refine .cons ?_ (relL_pairs s h2)
    unfold pairD at h1
    simp only [Rel] at h1
    obtain ⟨t, ws, e, h3, h4⟩ := h1
    obtain ⟨a, c, e2, h5, h6⟩ := two_of h4
    have h5 : a = .int p.1 := by simpa only [Rel] using h5
    have h6 : c = .int p.2 := by simpa only [Rel] using h6
    subst h5; subst h6; subst e2
    exact ⟨t, e, sqt_mono s h3⟩
theorem dc_minPP {ps : List (Int × Int)} (hn : ps ≠ []) (q : ∀ p, p ∈ ps → (∀ y, y ∈ ps → p.1 ≤ y.1) → Q (pairD p) d) : DC K b (rMinPP K) [.lst (ps.map pairD)] d Q := fun F σ H R vs r P kk => by
  obtain ⟨v, e, rv⟩ := one_of r
  simp only [Rel] at rv
  obtain ⟨p, us, e2, h1, h2⟩ := rv
  subst e; subst e2
  refine ⟨p, us, ps, rfl, R.sub.seq h1, relL_pairs R.sub h2, hn, fun i x p' hx hp hle => ?_⟩
  obtain ⟨w, h5, h6⟩ := h2.get (i := i) (d := pairD p') (by rw [List.getElem?_map, hp]; rfl)
  rw [hx] at h5
  cases h5
  exact kk _ H F _ d (Same.refl F) R h6 (q p' (List.mem_of_getElem? hp) hle)
theorem dc_sortPP {ps : List (Int × Int)} (hz : ps.length ≤ 100000) (q : ∀ qs : List (Int × Int), qs.Perm ps → Q (.lst (qs.map pairD)) d) : DC K b (rSortPP K) [.lst (ps.map pairD)] d Q := fun F σ H R vs r P kk => by
  obtain ⟨v, e, rv⟩ := one_of r
  simp only [Rel] at rv
  obtain ⟨p, us, e2, h1, h2⟩ := rv
  subst e; subst e2
  have hl := h2.len
  rw [List.length_map] at hl
  refine ⟨p, us, ps, rfl, R.sub.seq h1, relL_pairs R.sub h2, by omega, fun zs l hz hl' => ?_⟩
  obtain ⟨e, R'⟩ := R.frz hl' (.lst (zs.map (·.1))) (fun _ z => nomatch z)
  have m2 : (us.zip ps).map (·.2) = ps := List.map_snd_zip (by omega)
  have hq : (zs.map (·.2)).Perm ps := by
    have := hz.map (·.2)
    rwa [m2] at this
  have rel : ∀ z ∈ zs, Rel K F (pairD z.2) z.1 := fun z hm => by
    have hm2 := hz.mem_iff.mp hm
    obtain ⟨i, hi⟩ := List.mem_iff_getElem?.mp hm2
    obtain ⟨q1, q2⟩ := (List.getElem?_zip_eq_some).mp hi
    obtain ⟨w, h5, h6⟩ := h2.get (i := i) (d := pairD z.2) (by rw [List.getElem?_map, q2]; rfl)
    rw [q1] at h5
    cases h5
    exact h6
  have rl : ∀ (ys : List (V × (Int × Int))), (∀ z ∈ ys, Rel K F (pairD z.2) z.1) → RelL K (upd F l (.lst (zs.map (·.1)))) ((ys.map (·.2)).map pairD) (ys.map (·.1)) := by
    intro ys hy
    induction ys with
    | nil => exact .nil
    | cons y ys ih => exact .cons ((hy y List.mem_cons_self).mono e) (ih fun z hz => hy z (List.mem_cons_of_mem _ hz))
  exact kk (.ref l) _ _ _ d e R' (relLst (.inl (.inl upd_same)) (rl zs rel)) (q _ hq)
end
end DL
/-! DGap5 -/
set_option Elab.async false
set_option linter.all false
set_option maxRecDepth 100000
set_option maxHeartbeats 1000000
/-! The data layer: comprehensions in short. -/
namespace DL
open PySem PySem.Spec PyProof.Rows L2 RZ
section
variable {K : PySem.W.Frag} {b : Bs} {d : St} {Q : Dt → St → Prop} {te : TE} {tt : TT} {wi : TI} {g : TG} {vs : List Nat}
theorem range_snoc (n : Nat) (c : Nat → Bool) (f : Nat → Dt) : ((List.range (n + 1)).filter c).map f = ((List.range n).filter c).map f ++ (if c n = true then [f n] else []) := by
  rw [List.range_succ, List.filter_append, List.map_append]
  by_cases h : c n = true
  · simp [h]
  · simp [h]
/-- a comprehension that changes nothing: by the places -/
theorem de_lcPO (hw : Wp g vs) (hm : MoG g) (h : DI K b wi d fun items G d1 => items.length ≤ 100000 ∧ (∀ d, d.own = d1.own → G d) ∧ ∃ (c : Nat → Bool) (f : Nat → Dt),
    (∀ (b : Bs) i x, items[i]? = some x → DG K b g x ⟨wipeD d1.sl vs, d1.own⟩ fun d2 => DT K b tt d2 fun t d3 => t = c i ∧ if t = true then DE K b te d3 fun y d4 => d4.own = d1.own ∧ y = f i else d3.own = d1.own) ∧
    ∀ p, d1.own p = none → Q (.ptr p) ⟨d1.sl, d1.own.put p (.lst (((List.range items.length).filter c).map f))⟩) : DE K b (tLc wi g tt te vs) d Q :=
  de_lcO hw hm fun F σ H R P kk => h F σ H R P fun J H' F' d' items G s R' w ⟨h1, hG, c, f, turn, done⟩ => kk J H' F' d' items G s R' w ⟨h1, fun i acc ow => ow = d'.own ∧ acc = ((List.range i).filter c).map f, ⟨rfl, rfl⟩, fun i acc ow _ e => hG _ e.1, fun b i x acc ow hx ⟨e1, e2⟩ => by
    subst e1; subst e2
    intro F σ H R v r P kk
    refine turn b i x hx F σ H R v r P fun σ' H' F' d2 s R' q => kk σ' H' F' d2 s R' ?_
    intro F σ H R P kk
    refine q F σ H R P fun t H' F' d3 s R' ⟨e, q⟩ => kk t H' F' d3 s R' ?_
    subst e
    by_cases hc : c i = true
    · rw [if_pos hc] at q
      rw [if_pos hc]
      intro F σ H R P kk
      exact q F σ H R P fun v H' F' y d4 s R' r ⟨e1, e2⟩ => kk v H' F' y d4 s R' r ⟨e1, by rw [range_snoc, if_pos hc, e2]⟩
    · rw [if_neg hc] at q
      rw [if_neg hc]
      exact ⟨q, by rw [range_snoc, if_neg hc, List.append_nil]⟩, fun acc ow ⟨e1, e2⟩ => by
    subst e1; subst e2
    exact done⟩
theorem de_lcP (hw : Wp g vs) (hm : MoG g) (h : DI K b wi d fun items G d1 => items.length ≤ 100000 ∧ (∀ d, d.own = d1.own → G d) ∧ ∃ (c : Nat → Bool) (f : Nat → Dt),
    (∀ (b : Bs) i x, items[i]? = some x → DG K b g x ⟨wipeD d1.sl vs, d1.own⟩ fun d2 => DT K b tt d2 fun t d3 => t = c i ∧ if t = true then DE K b te d3 fun y d4 => d4.own = d1.own ∧ y = f i else d3.own = d1.own) ∧
    Q (.lst (((List.range items.length).filter c).map f)) d1) : DE K b (tLc wi g tt te vs) d Q :=
  de_frz (de_lcPO hw hm fun F σ H R P kk => h F σ H R P fun J H' F' d' items G s R' w ⟨h1, h2, c, f, h3, h4⟩ => kk J H' F' d' items G s R' w ⟨h1, h2, c, f, h3, fun p hp => ⟨p, _, rfl, Own.put_same, by
    rw [put_del hp]; exact h4⟩⟩)
theorem dt_yes {QB : Bool → St → Prop} (q : QB true d) : DT K b tYes d QB := fun F σ H R P kk => kk true H F d (Same.refl F) R q
theorem filter_true (n : Nat) (f : Nat → Dt) : ((List.range n).filter fun _ => true).map f = (List.range n).map f := by
  rw [List.filter_eq_self.mpr fun _ _ => rfl]
/-- the same without a test -/
theorem de_lcMO (hw : Wp g vs) (hm : MoG g) (h : DI K b wi d fun items G d1 => items.length ≤ 100000 ∧ (∀ d, d.own = d1.own → G d) ∧ ∃ f : Nat → Dt,
    (∀ (b : Bs) i x, items[i]? = some x → DG K b g x ⟨wipeD d1.sl vs, d1.own⟩ fun d2 => DE K b te d2 fun y d4 => d4.own = d1.own ∧ y = f i) ∧
    ∀ p, d1.own p = none → Q (.ptr p) ⟨d1.sl, d1.own.put p (.lst ((List.range items.length).map f))⟩) : DE K b (tLc wi g tYes te vs) d Q :=
  de_lcPO hw hm fun F σ H R P kk => h F σ H R P fun J H' F' d' items G s R' w ⟨h1, h2, f, h3, h4⟩ => kk J H' F' d' items G s R' w ⟨h1, h2, fun _ => true, f, fun b i x hx F σ H R v r P kk => h3 b i x hx F σ H R v r P fun σ' H' F' d2 s R' q => kk σ' H' F' d2 s R' (dt_yes ⟨rfl, by rw [if_pos rfl]; exact q⟩), by
    rw [filter_true]; exact h4⟩
theorem de_lcM (hw : Wp g vs) (hm : MoG g) (h : DI K b wi d fun items G d1 => items.length ≤ 100000 ∧ (∀ d, d.own = d1.own → G d) ∧ ∃ f : Nat → Dt,
    (∀ (b : Bs) i x, items[i]? = some x → DG K b g x ⟨wipeD d1.sl vs, d1.own⟩ fun d2 => DE K b te d2 fun y d4 => d4.own = d1.own ∧ y = f i) ∧
    Q (.lst ((List.range items.length).map f)) d1) : DE K b (tLc wi g tYes te vs) d Q :=
  de_lcP hw hm fun F σ H R P kk => h F σ H R P fun J H' F' d' items G s R' w ⟨h1, h2, f, h3, h4⟩ => kk J H' F' d' items G s R' w ⟨h1, h2, fun _ => true, f, fun b i x hx F σ H R v r P kk => h3 b i x hx F σ H R v r P fun σ' H' F' d2 s R' q => kk σ' H' F' d2 s R' (dt_yes ⟨rfl, by rw [if_pos rfl]; exact q⟩), by
    rw [filter_true]; exact h4⟩
/-- what comes out is told by a property of each item -/
theorem de_lcA (hw : Wp g vs) (hm : MoG g) (h : DI K b wi d fun items G d1 => items.length ≤ 100000 ∧ ∃ (J : Own → Prop) (Pi : Dt → Prop), J d1.own ∧ (∀ d, J d.own → G d) ∧
    (∀ (b : Bs) (i : Nat) x ow, items[i]? = some x → J ow → DG K b g x ⟨wipeD d1.sl vs, ow⟩ fun d2 => DE K b te d2 fun y d4 => J d4.own ∧ Pi y) ∧
    ∀ ys ow, J ow → ys.length = items.length → (∀ y ∈ ys, Pi y) → Q (.lst ys) ⟨d1.sl, ow⟩) : DE K b (tLc wi g tYes te vs) d Q :=
  de_lc hw hm fun F σ H R P kk => h F σ H R P fun J H' F' d' items G s R' w ⟨h1, Jo, Pi, j0, hG, turn, done⟩ => kk J H' F' d' items G s R' w ⟨h1, fun i acc ow => Jo ow ∧ acc.length = i ∧ ∀ y ∈ acc, Pi y, ⟨j0, rfl, fun _ z => by cases z⟩, fun i acc ow _ e => hG _ e.1, fun b i x acc ow hx ⟨e1, e2, e3⟩ => by
    intro F σ H R v r P kk
    refine turn b i x ow hx e1 F σ H R v r P fun σ' H' F' d2 s R' q => kk σ' H' F' d2 s R' (dt_yes ?_)
    rw [if_pos rfl]
    intro F σ H R P kk
    refine q F σ H R P fun v H' F' y d4 s R' r ⟨e4, e5⟩ => kk v H' F' y d4 s R' r ⟨e4, by rw [List.length_append, e2]; rfl, fun y' hy' => ?_⟩
    rcases List.mem_append.mp hy' with z | z
    · exact e3 _ z
    · rw [List.mem_singleton.mp z]; exact e5, fun acc ow ⟨e1, e2, e3⟩ => done acc ow e1 e2 e3⟩
end
end DL
/-! DGap6 -/
set_option Elab.async false
set_option linter.all false
set_option maxRecDepth 100000
set_option maxHeartbeats 1000000
/-! The data layer: comprehensions whose owned state goes with the turns. -/
namespace DL
open PySem PySem.Spec PyProof.Rows L2 RZ
section
variable {K : PySem.W.Frag} {b : Bs} {d : St} {Q : Dt → St → Prop} {te : TE} {tt : TT} {wi : TI} {g : TG} {vs : List Nat} {x : Dt}
/-- what a reading gives is forgotten but for a property -/
theorem de_some {Pv : Dt → Prop} (h : DE K b te d fun x d1 => d1 = d ∧ Pv x) (q : ∀ x, Pv x → Q x d) : DE K b te d Q := fun F σ H R P kk =>
  h F σ H R P fun v H' F' x d' s R' r ⟨e, p⟩ => kk v H' F' x d' s R' r (by rw [e]; exact q x p)
theorem de_lcNO (hw : Wp g vs) (hm : MoG g) (h : DI K b wi d fun items G d1 => items.length ≤ 100000 ∧ ∃ (J : Nat → Own → Prop) (Pi : Nat → Dt → Prop), J 0 d1.own ∧ (∀ i d, i ≤ items.length → J i d.own → G d) ∧
    (∀ (b : Bs) (i : Nat) x ow, items[i]? = some x → J i ow → DG K b g x ⟨wipeD d1.sl vs, ow⟩ fun d2 => DE K b te d2 fun y d4 => J (i + 1) d4.own ∧ Pi i y) ∧
    ∀ ys ow, J items.length ow → ys.length = items.length → (∀ i y, ys[i]? = some y → Pi i y) → ∀ p, ow p = none → Q (.ptr p) ⟨d1.sl, ow.put p (.lst ys)⟩) : DE K b (tLc wi g tYes te vs) d Q :=
  de_lcO hw hm fun F σ H R P kk => h F σ H R P fun J H' F' d' items G s R' w ⟨h1, Jo, Pi, j0, hG, turn, done⟩ => kk J H' F' d' items G s R' w ⟨h1, fun i acc ow => Jo i ow ∧ acc.length = i ∧ ∀ j y, acc[j]? = some y → Pi j y, ⟨j0, rfl, fun _ _ z => by cases z⟩, fun i acc ow hi e => hG i _ hi e.1, fun b i x acc ow hx ⟨e1, e2, e3⟩ => by
    intro F σ H R v r P kk
    refine turn b i x ow hx e1 F σ H R v r P fun σ' H' F' d2 s R' q => kk σ' H' F' d2 s R' (dt_yes ?_)
    rw [if_pos rfl]
    intro F σ H R P kk
    refine q F σ H R P fun v H' F' y d4 s R' r ⟨e4, e5⟩ => kk v H' F' y d4 s R' r ⟨e4, by rw [List.length_append, e2]; rfl, fun j y' hy' => ?_⟩
    by_cases hj : j < acc.length
    · rw [List.getElem?_append_left hj] at hy'; exact e3 j y' hy'
    · rw [List.getElem?_append_right (by omega)] at hy'
      have hj2 : j = i := by
        by_cases z : j - acc.length = 0
        · omega
        · rw [List.getElem?_eq_none (by simp only [List.length_cons, List.length_nil]; omega)] at hy'; cases hy'
      subst hj2
      rw [e2, Nat.sub_self] at hy'
      cases hy'
      exact e5, fun acc ow ⟨e1, e2, e3⟩ p hp => done acc ow e1 e2 e3 p hp⟩
theorem de_lcN (hw : Wp g vs) (hm : MoG g) (h : DI K b wi d fun items G d1 => items.length ≤ 100000 ∧ ∃ (J : Nat → Own → Prop) (Pi : Nat → Dt → Prop), J 0 d1.own ∧ (∀ i d, i ≤ items.length → J i d.own → G d) ∧
    (∀ (b : Bs) (i : Nat) x ow, items[i]? = some x → J i ow → DG K b g x ⟨wipeD d1.sl vs, ow⟩ fun d2 => DE K b te d2 fun y d4 => J (i + 1) d4.own ∧ Pi i y) ∧
    ∀ ys ow, J items.length ow → ys.length = items.length → (∀ i y, ys[i]? = some y → Pi i y) → Q (.lst ys) ⟨d1.sl, ow⟩) : DE K b (tLc wi g tYes te vs) d Q :=
  de_frz (de_lcNO hw hm fun F σ H R P kk => h F σ H R P fun J H' F' d' items G s R' w ⟨h1, Jo, Pi, j0, hG, turn, done⟩ => kk J H' F' d' items G s R' w ⟨h1, Jo, Pi, j0, hG, turn, fun ys ow e1 e2 e3 p hp => ⟨p, _, rfl, Own.put_same, by
    rw [put_del hp]; exact done ys ow e1 e2 e3⟩⟩)
/-- a tuple, or an owned list -/
def Sqd (d : St) (x : Dt) (xs : List Dt) : Prop := x = .tup xs ∨ ∃ a, x = .ptr a ∧ d.own a = some (.lst xs)
theorem dr_xB {xs : List Dt} {i : Int} {y : Dt} (hx : Sqd d x xs) (e : atI xs i = some y) (q : Q y d) : DR K b (rIx K) x (.int i) d Q := by
  rcases hx with rfl | ⟨a, rfl, ho⟩
  · exact dr_xT e q
  · exact dr_xO ho e q
theorem dc_lenB {xs : List Dt} (hx : Sqd d x xs) (q : Q (.int xs.length) d) : DC K b (rLen K) [x] d Q := by
  rcases hx with rfl | ⟨a, rfl, ho⟩
  · exact dc_lenT q
  · exact dc_lenO ho q
end
end DL
/-! DTx2 -/
set_option Elab.async false
set_option linter.all false
set_option maxRecDepth 100000
/-! The text's wrappers, more. -/
namespace Cab
open PySem PySem.Spec PyProof.Rows L2 DL
theorem ex_int2 {a c : Int} {P : Int → Int → Prop} (h : P a c) : ∃ i j, Dt.int a = Dt.int i ∧ Dt.int c = Dt.int j ∧ P i j := ⟨a, c, rfl, rfl, h⟩
theorem map_get {α : Type} {f : α → Dt} {l : List α} {i : Nat} {y : Dt} (h : (l.map f)[i]? = some y) : ∃ z, l[i]? = some z ∧ y = f z := by
  rw [List.getElem?_map] at h
  cases q : l[i]? with
  | none => rw [q] at h; cases h
  | some z => rw [q] at h; exact ⟨z, rfl, (Option.some.inj h).symm⟩
theorem between_yes {i lo hi : Int} {Q : Dt → Prop} {PB : List Dt → (Dt → Prop) → Prop} (hP : ∀ Q, (∃ i' lo' hi' : Int, [Dt.int i, Dt.int lo, Dt.int hi] = [.int i', .int lo', .int hi'] ∧ Q (.bl (decide (lo' ≤ i' ∧ i' ≤ hi')))) → PB [.int i, .int lo, .int hi] Q) (h : lo ≤ i ∧ i ≤ hi) (q : Q (.bl true)) : PB [.int i, .int lo, .int hi] Q :=
  hP Q ⟨i, lo, hi, rfl, by rw [decide_eq_true h]; exact q⟩
theorem putD_lt {f : Str} {y : Dt} : ∀ {fs : List (Str × Dt)} {n : Nat}, fs.length < n → (putD f y fs).length < n + 1
  | [], n, h => by simp only [putD, List.length_cons, List.length_nil] at h ⊢; omega
  | (g, x) :: r, n, h => by
    unfold putD
    split
    · exact Nat.lt_succ_of_lt h
    · cases n with
      | zero => exact absurd h (Nat.not_lt_zero _)
      | succ n => exact Nat.succ_lt_succ (putD_lt (n := n) (Nat.lt_of_succ_lt_succ h))
theorem hu64 {k : Nat} {A : Around} (hr : Room k A) : A.units + 64 < cLine := hr.units
section
variable {X : Cx} {k : Nat} {x : Str} {p pos apos cpos : Pos} {o e : Expr} {es : List Expr} {ps : List Str} {sp : Sp} {t : TA} {K : PySem.W.Frag} {ta te : TE}
theorem pe_appK (hK : X.K = K) (ho : PE X o ta) (he : PE X e te)
    (hbase : attributeBase o "append" X.env (eval o X.env) = eval o X.env := by rfl)
    (hfew : ((backTo cpos (starEach [e] X.env)).all (fun x => !x.1) && (backToKw cpos (keywordEach [] X.env)).all (fun x => x.1.isSome)
      && decide ([e].length + ([] : List Keyword).length + (if ([] : List Keyword).isEmpty then 0 else 1) < 30)) = true := by rfl)
    (hline : (apos.endLine == cpos.line) = true := by rfl) (hs : starEach [e] X.env = (false, eval e X.env) :: starEach [] X.env := by rfl) (hplain : (backTo cpos (starEach [] X.env)).any (·.1) = false := by rfl) :
    PE X (.Call (.Attribute o "append" apos) [e] [] cpos) (tBM K "list" rAppend ta (tCons te tNil)) :=
  hK ▸ pe_bm PySem.F.plainAttrs_list PySem.F.slot_list_append PySem.F.type_list_append mt_append ho (pa_cons (hs := hs) he pa_nil) hbase hfew hline hs hplain
theorem cr_lenOwnK (hK : X.K = K) {C : Str} (Cm : CalM X.prog X.w K X.mg X.base k C "__len__" ps sp) (hr : Room (k + 1) X.A) : CallR X (.builtin "len") (rLenOwn (He.ga K C) sp) := by
  subst hK
  obtain ⟨f, fd, F, hm, hc, hb, _⟩ := Cm
  exact cr_lenOwn F hr hb (hm (by decide))
theorem pe_lstStar (hK : X.K = K) (he : PE X e te) (ho : PE X o ta) (hs : starEach [e, .Starred o p] X.env = (false, eval e X.env) :: starEach [.Starred o p] X.env := by rfl) (hs2 : starEach [.Starred o p] X.env = (true, eval o X.env) :: starEach [] X.env := by rfl) :
    PE X (.List [e, .Starred o p] pos) (tLst (tCons te (StX.tStar K ta tNil))) := hK ▸ pe_lst (pa_cons (hs := hs) he (StX.pa_star ho pa_nil hs2))
theorem cr_sumTK (hK : X.K = K) (hc : X.calm = true) : CallR X (.builtin "sum") (rSumT K) := hK ▸ cr_sumT hc
theorem cr_minPPK (hK : X.K = K) (hc : X.calm = true) (hu : X.A.units + 64 < cLine) : CallR X (.builtin "min") (rMinPP K) := hK ▸ cr_minPP hc hu
theorem cr_sortPPK (hK : X.K = K) (hc : X.calm = true) (hu : X.A.units + 64 < cLine) : CallR X (.builtin "sorted") (rSortPP K) := hK ▸ cr_sortPP hc hu
theorem op_eqDK (hK : X.K = K) (hu : X.A.units + 64 < cLine) : OpR X (compareOp .Eq) (rEqD K) := hK ▸ op_eqD hu
theorem op_neDK (hK : X.K = K) (hu : X.A.units + 64 < cLine) : OpR X (compareOp .NotEq) (rNeD K) := hK ▸ op_neD hu
theorem op_catTK (hK : X.K = K) : OpR X (binaryOp .Add) (rCatT K) := hK ▸ op_catT
end
section
variable {K : PySem.W.Frag} {mg : Str → Option Value} {b : Bs} {d : DL.St} {Q : Dt → DL.St → Prop}
theorem isi_ride (T : Txt K mg base) {fs : List (Str × Dt)} (q : Q (.bl true) d) : DC K b (rIsi K) [.ins (He.ga K "Ride") fs, .ptr (He.ga K "Ride")] d Q :=
  dc_isi (t := .ref (He.ga K "Ride")) (u := .ref (He.ga K "Ride")) (r := true) (fun F H v s r => by
    simp only [Rel] at r
    obtain ⟨p, dx, vs, e, h1, _⟩ := r
    subst e
    exact .base (.ins (s _ _ h1) (T.cls "Ride" (by decide +kernel)).1 T.isRide.1 T.isRide.2.1 T.isRide.2.2.1 T.isRide.2.2.2)) cls_own (if_pos (beq_self_eq_true _)) q
end
end Cab
/-! HedA -/
set_option Elab.async false
set_option linter.all false
set_option maxRecDepth 100000
set_option maxHeartbeats 4000000
/-! The head: what the top leaves, told of the objects up to its end. -/
namespace Cab
open PySem PySem.Spec PyProof.Rows L2 DL
def names0 : List PySem.Str := [PySem.Str.ofString "_wall", PySem.Str.ofString "MOST_STRETCHES", PySem.Str.ofString "MOST_COST", PySem.Str.ofString "MOST_RIDERS", PySem.Str.ofString "MOST_ABOARD", PySem.Str.ofString "MOST_BAGS", PySem.Str.ofString "MOST_AMOUNT", PySem.Str.ofString "MOST_PLAY", PySem.Str.ofString "MOST_RECEIPTS", PySem.Str.ofString "MOST_CLAUSES", PySem.Str.ofString "MOST_FACTOR", PySem.Str.ofString "InputError", PySem.Str.ofString "SizeError", PySem.Str.ofString "NotARide", PySem.Str.ofString "InvalidRider", PySem.Str.ofString "InvalidStretch", PySem.Str.ofString "InvalidOrder", PySem.Str.ofString "InvalidCustom", PySem.Str.ofString "InvalidCosts", PySem.Str.ofString "InvalidRiders"]
def names1 : List PySem.Str := [PySem.Str.ofString "InvalidTable", PySem.Str.ofString "InvalidReceipts", PySem.Str.ofString "TooMany", PySem.Str.ofString "is_integer", PySem.Str.ofString "is_between", PySem.Str.ofString "common", PySem.Str.ofString "fraction", PySem.Str.ofString "is_fraction", PySem.Str.ofString "plus", PySem.Str.ofString "times", PySem.Str.ofString "is_less", PySem.Str.ofString "ORDERS", PySem.Str.ofString "check_order", PySem.Str.ofString "check_costs", PySem.Str.ofString "is_rider", PySem.Str.ofString "check_riders", PySem.Str.ofString "aboard_at", PySem.Str.ofString "place_of", PySem.Str.ofString "ranked_at", PySem.Str.ofString "is_crowded"]
def names2 : List PySem.Str := [PySem.Str.ofString "Ride", PySem.Str.ofString "check_stretch", PySem.Str.ofString "check_ride", PySem.Str.ofString "check_rider", PySem.Str.ofString "SCALE", PySem.Str.ofString "places", PySem.Str.ofString "place_in_row", PySem.Str.ofString "form_of", PySem.Str.ofString "fare_form", PySem.Str.ofString "joined", PySem.Str.ofString "corners", PySem.Str.ofString "variables", PySem.Str.ofString "row_of", PySem.Str.ofString "Board", PySem.Str.ofString "Answer", PySem.Str.ofString "solved", PySem.Str.ofString "is_row", PySem.Str.ofString "check_table", PySem.Str.ofString "lasting_clauses", PySem.Str.ofString "halved_clauses"]
def names3 : List PySem.Str := [PySem.Str.ofString "WORDS", PySem.Str.ofString "is_clause", PySem.Str.ofString "is_custom", PySem.Str.ofString "check_custom", PySem.Str.ofString "clauses_of", PySem.Str.ofString "clause_form", PySem.Str.ofString "is_amounts", PySem.Str.ofString "is_receipt", PySem.Str.ofString "check_receipts", PySem.Str.ofString "room_forms", PySem.Str.ofString "worth", PySem.Str.ofString "keeps", PySem.Str.ofString "fares_of", PySem.Str.ofString "fares", PySem.Str.ofString "check_known", PySem.Str.ofString "fits", PySem.Str.ofString "nothing", PySem.Str.ofString "answer_for", PySem.Str.ofString "least_and_greatest", PySem.Str.ofString "any_table"]
def names4 : List PySem.Str := [PySem.Str.ofString "check_fare", PySem.Str.ofString "least_fare", PySem.Str.ofString "greatest_fare", PySem.Str.ofString "told_receipts", PySem.Str.ofString "none_fits", PySem.Str.ofString "certify_reached", PySem.Str.ofString "_law_jug", PySem.Str.ofString "_law_drop", PySem.Str.ofString "_law_one", PySem.Str.ofString "_law_low", PySem.Str.ofString "_law_add", PySem.Str.ofString "_law_under", PySem.Str.ofString "_law_crowd", PySem.Str.ofString "_law_trip", PySem.Str.ofString "_law_cab_trip", PySem.Str.ofString "_law_seats", PySem.Str.ofString "_law_row", PySem.Str.ofString "_law_shares", PySem.Str.ofString "_law_fares", PySem.Str.ofString "_law_rules"]
def names5 : List PySem.Str := [PySem.Str.ofString "_law_slips", PySem.Str.ofString "_law_receipts", PySem.Str.ofString "_law_between", PySem.Str.ofString "_law_blend", PySem.Str.ofString "_law_right"]
def names : List PySem.Str := names0 ++ names1 ++ names2 ++ names3 ++ names4 ++ names5
noncomputable section
abbrev RR : PySem.W.OpenRow := PySem.W.OpenLaw.row PySem.Challenge.rw_cabshares_k34_whole_mixtures_of_tables
abbrev qv : Program := PySem.W.view RR.prog [114]
/-- all that stands behind the top -/
def asR : List Addr := List.range 898
abbrev frm (g : Addr → Option Obj) : PySem.W.Frag := He.frT g asR
def fnD (p : Str × Nat) : He.DefD := ⟨(p.1, none), p.1, p.1, defArgs (topS p.2), defBody (topS p.2), defScope (topS p.2), [], []⟩
def fdD (p : Str × Nat) : He.DefD := ⟨(p.1, none), p.1, p.1, defArgs (topS p.2), defBody (topS p.2), defScope (topS p.2), [.adr (He.dflAt (p.1, none) 0)], []⟩
def meD (p : Str × Str × Str × Nat × Nat) : He.DefD := ⟨(p.1, some p.2.1), p.2.1, p.2.2.1, defArgs (inClass (topS p.2.2.2.1) p.2.2.2.2), defBody (inClass (topS p.2.2.2.1) p.2.2.2.2), defScope (inClass (topS p.2.2.2.1) p.2.2.2.2), [], []⟩
def fnL : List He.DefD := fnTab.map fnD ++ (fdTab.map fdD ++ meTab.map meD)
def clL : List Str := ["Ride", "Board", "Answer"]
def gloL : List Str := fnTab.map (·.1) ++ (fdTab.map (·.1) ++ (clL ++ (["ORDERS", "WORDS"] : List Str)))
def faL : List He.Fa := gloL.map He.Fa.glo ++ (freeTab.map He.Fa.free ++ (intTab.map (fun p => He.Fa.int p.1 p.2) ++ (clL.map He.Fa.cls ++ (clL.map He.Fa.mkr ++ (noatTab.map (fun p => He.Fa.noat p.1 p.2) ++ (meTab.filter fun p => decide (p.2.1 ≠ ("__init__" : Str))).map fun p => He.Fa.meth p.1 p.2.1)))))
/-- the rest of what is told -/
def exKB (K : PySem.W.Frag) : Bool := He.tupB K "ORDERS" [.str "number", .str "sat", .str "bags"] && (He.tupB K "WORDS" [.str "falling", .str "lasting", .str "halved"] &&
  (decide (PySem.W.findIn K (.ref (He.ga K "Ride")) "__class__" = some (some (.builtin "object.__class__"))) && (decide (PySem.W.specialIn K (.builtin "object.__class__") "__get__" = some (some (.builtin "getset_descriptor.__get__"))) &&
    (decide (PySem.W.takesIn K (.builtin "object.__class__") = some true) && decide (PySem.W.mroIn K (He.ga K "Ride") (.type "object") = some true)))))
def tfL : List He.Defn := [("ranked_at", none)]
def oFa (g : Addr → Option Obj) : Bool := faL.all fun f => f.ok (frm g)
def oFn (g : Addr → Option Obj) : Bool := fnL.all fun d => d.ok (frm g)
def oVl (g : Addr → Option Obj) : List He.FnW := fnL.map fun d => He.fnW (frm g) d.at_
def oEx (g : Addr → Option Obj) : Bool := exKB (frm g) && He.tabsB g tfL (frm g)
abbrev AlC : Type := Bool × Bool × List He.FnW × Bool
def obsC (g : Addr → Option Obj) : AlC := (oFa g, oFn g, oVl g, oEx g)
def valC : AlC := (true, true, fnL.map He.DefD.val, true)
structure SaysC (h : Heap) (K : PySem.W.Frag) : Prop where
  d : He.SaysD faL fnL K
  ex : exKB K = true
  hd : ∀ p ∈ tfL, PySem.W.codeHdIn K (He.cT K p).1 (He.cT K p).2 = true
  out : ∀ p ∈ tfL, K.lookup (He.cT K p).2 = none
  empty : ∀ p ∈ tfL, h.get? (He.cT K p).2 = some { cls := .none, data := .fields #[] }
theorem saysC_of {h : Heap} (e : obsC h.get? = valC) : SaysC h (frm h.get?) := by
  have e1 : oFa h.get? = true := congrArg (fun z : AlC => z.1) e
  have e2 : oFn h.get? = true := congrArg (fun z : AlC => z.2.1) e
  have e3 : oVl h.get? = fnL.map He.DefD.val := congrArg (fun z : AlC => z.2.2.1) e
  have e4 : oEx h.get? = true := congrArg (fun z : AlC => z.2.2.2) e
  obtain ⟨h1, h2⟩ := He.ba (show (exKB (frm h.get?) && He.tabsB h.get? tfL (frm h.get?)) = true from e4)
  have key : ∀ p ∈ tfL, PySem.W.codeHdIn (frm h.get?) (He.cT (frm h.get?) p).1 (He.cT (frm h.get?) p).2 = true ∧ ∃ o, h.get? (He.cT (frm h.get?) p).2 = some o ∧ He.emptyTab o = true := fun p hp => by
    obtain ⟨h3, h4⟩ := He.ba (List.all_eq_true.mp h2 p hp)
    refine ⟨h3, ?_⟩
    cases q : h.get? (He.cT (frm h.get?) p).2 with
    | none => rw [q] at h4; cases h4
    | some o => rw [q] at h4; exact ⟨o, rfl, h4⟩
  refine ⟨?_, h1, fun p hp => (key p hp).1, fun p hp => ?_, fun p hp => ?_⟩
  · show ((faL.all fun f => f.ok (frm h.get?)) && fnL.all fun d => d.ok (frm h.get?), fnL.map fun d => He.fnW (frm h.get?) d.at_) = (true, fnL.map He.DefD.val)
    have e3' : (fnL.map fun d => He.fnW (frm h.get?) d.at_) = fnL.map He.DefD.val := e3
    rw [show (faL.all fun f => f.ok (frm h.get?)) = true from e1, show (fnL.all fun d => d.ok (frm h.get?)) = true from e2, e3']
    rfl
  · obtain ⟨_, o, q, z⟩ := key p hp
    exact He.frT_none q z
  · obtain ⟨_, o, q, z⟩ := key p hp
    rw [q, He.emptyTab_eq z]
def hkC : PySem.W.Hook where
  α := AlC
  obs := fun s => obsC s.heap.get?
  val := fun _ => valC
  says := fun _ h => ∃ K : PySem.W.Frag, K.In h ∧ SaysC h K
  of := fun _ _ e => ⟨_, He.frT_in, saysC_of e⟩
  keeps := fun _ _ _ ⟨K, hK, c⟩ k => ⟨K, PySem.W.Frag.In.keeps hK k, ⟨c.d, c.ex, c.hd, c.out, fun p hp => k _ _ (c.empty p hp)⟩⟩
def obC (s : PySem.W.SharedT) : AlC := obsC (HandSHeadRun.getT s)
theorem obC_eq (s : PySem.W.SharedT) : obC s = hkC.obs s.abs := by
  have e : HandSHeadRun.getT s = s.abs.heap.get? := funext (HandSHeadRun.getT_eq s)
  show obsC (HandSHeadRun.getT s) = obsC s.abs.heap.get?
  rw [e]
/-- the text's facts from what is told -/
theorem txt_of {K : PySem.W.Frag} {h base : Heap} {mg : Str → Option Value} (X : K.In h) (G : h.Ns mainGlobals mg) (c : SaysC h K) (tb : ∀ p ∈ tfL, LamX.TabB base mg (He.cT K p).1 (He.cT K p).2) : Txt K mg base := by
  have fa : ∀ {f : He.Fa}, f ∈ faL → f.ok K = true := fun hf => c.d.facts hf
  have glo : ∀ {x : Str}, x ∈ gloL → mg x = some (.ref (He.ga K x)) := fun {x} hx => He.glo_ok X G (fa (List.mem_append_left _ (List.mem_map_of_mem hx)))
  have inF : ∀ {f : He.Fa}, f ∈ (freeTab.map He.Fa.free ++ (intTab.map (fun p => He.Fa.int p.1 p.2) ++ (clL.map He.Fa.cls ++ (clL.map He.Fa.mkr ++ (noatTab.map (fun p => He.Fa.noat p.1 p.2) ++ (meTab.filter fun p => decide (p.2.1 ≠ ("__init__" : Str))).map fun p => He.Fa.meth p.1 p.2.1))))) → f.ok K = true := fun hf => fa (List.mem_append_right _ hf)
  obtain ⟨x1, x2⟩ := He.ba c.ex
  obtain ⟨x2, x3⟩ := He.ba x2
  obtain ⟨x3, x4⟩ := He.ba x3
  obtain ⟨x4, x5⟩ := He.ba x4
  obtain ⟨x5, x6⟩ := He.ba x5
  have gl2 : ∀ {x : Str}, x ∈ clL ++ (["ORDERS", "WORDS"] : List Str) → mg x = some (.ref (He.ga K x)) := fun hx => glo (List.mem_append_right _ (List.mem_append_right _ hx))
  refine ⟨fun p hp => ⟨?_, glo (List.mem_append_left _ (List.mem_map_of_mem (f := (·.1)) hp))⟩, fun p hp => ⟨?_, glo (List.mem_append_right _ (List.mem_append_left _ (List.mem_map_of_mem (f := (·.1)) hp)))⟩, tb ("ranked_at", none) List.mem_cons_self, fun p hp => ⟨?_, fun hi => ?_⟩, fun x hx => ?_, fun p hp => ?_, fun C hC => ⟨?_, gl2 (List.mem_append_left _ hC), ?_⟩, fun p hp => ?_, ⟨gl2 (List.mem_append_right _ List.mem_cons_self), fun H => He.tupB_ok x1 H⟩, ⟨gl2 (List.mem_append_right _ (List.mem_cons_of_mem _ List.mem_cons_self)), fun H => He.tupB_ok x2 H⟩, of_decide_eq_true x3, of_decide_eq_true x4, of_decide_eq_true x5, of_decide_eq_true x6⟩
  · exact c.d.defs (d := fnD p) (List.mem_append_left _ (List.mem_map_of_mem hp))
  · obtain ⟨fd, h⟩ := c.d.defs (d := fdD p) (List.mem_append_right _ (List.mem_append_left _ (List.mem_map_of_mem hp)))
    exact ⟨fd, _, h⟩
  · exact c.d.defs (d := meD p) (List.mem_append_right _ (List.mem_append_right _ (List.mem_map_of_mem hp)))
  · exact He.meth_ok (inF (List.mem_append_right _ (List.mem_append_right _ (List.mem_append_right _ (List.mem_append_right _ (List.mem_append_right _ (List.mem_map_of_mem (f := fun p : Str × Str × Str × Nat × Nat => He.Fa.meth p.1 p.2.1) (List.mem_filter.mpr ⟨hp, decide_eq_true hi⟩))))))))
  · exact He.free_ok X G (inF (List.mem_append_left _ (List.mem_map_of_mem hx)))
  · exact He.int_ok X G (inF (List.mem_append_right _ (List.mem_append_left _ (List.mem_map_of_mem (f := fun p : Str × Int => He.Fa.int p.1 p.2) hp))))
  · exact He.cls_ok (inF (List.mem_append_right _ (List.mem_append_right _ (List.mem_append_left _ (List.mem_map_of_mem hC)))))
  · exact He.mkr_ok (inF (List.mem_append_right _ (List.mem_append_right _ (List.mem_append_right _ (List.mem_append_left _ (List.mem_map_of_mem hC))))))
  · exact He.noat_ok (inF (List.mem_append_right _ (List.mem_append_right _ (List.mem_append_right _ (List.mem_append_right _ (List.mem_append_left _ (List.mem_map_of_mem (f := fun p : Str × Str => He.Fa.noat p.1 p.2) hp)))))))
end
end Cab
/-! HedB -/
set_option Elab.async false
set_option linter.all false
set_option maxRecDepth 100000
set_option maxHeartbeats 0
/-! The top run. -/
namespace Cab
open PySem PySem.W PySem.Calls PyProof.Rows HandSHeadRun
noncomputable abbrev eR (w : PySem.World) (os : OsState) : Option SharedT := endF (stepQ (denQ tabQ) RR.prog w) 7500 RR.prog w os
theorem r1 (w : PySem.World) (os : OsState) : (eR w os).map (fun s => (looksF RR.prog (boot_heap w.params) s.abs, seenQ qv names (importedModules RR.prog.main.body) (fun s => xlAt qv [] s && recOk RR.toRowW.records s) s.abs)) = some (true, openGood qv names) := by kernel_rfl
theorem r2 (w : PySem.World) (os : OsState) : (eR w os).map (fun s => (oFa (getT s), oEx (getT s))) = some (true, true) := by kernel_rfl
theorem r3 (w : PySem.World) (os : OsState) : (eR w os).map (fun s => oFn (getT s)) = some true := by kernel_rfl
theorem r4 (w : PySem.World) (os : OsState) : (eR w os).map (fun s => oVl (getT s)) = some (fnL.map He.DefD.val) := by kernel_rfl
theorem comb {α β1 β2 γ1 γ2 γ3 γ4 : Type} {o : Option α} {f1 : α → β1} {f2 : α → β2} {g1 : α → γ1} {g2 : α → γ2} {g3 : α → γ3} {g4 : α → γ4} {v1 v2 w1 w2 w3 w4} (h1 : o.map (fun s => (f1 s, f2 s)) = some (v1, v2)) (h2 : o.map (fun s => (g1 s, g4 s)) = some (w1, w4)) (h3 : o.map (fun s => g2 s) = some w2) (h4 : o.map (fun s => g3 s) = some w3) :
    o.map (fun s => (f1 s, f2 s, (g1 s, g2 s, g3 s, g4 s))) = some (v1, v2, (w1, w2, w3, w4)) := by
  cases o with
  | none => cases h3
  | some s =>
    obtain ⟨a1, a2⟩ : f1 s = v1 ∧ f2 s = v2 := Prod.mk.inj (Option.some.inj h1)
    obtain ⟨a3, a4⟩ : g1 s = w1 ∧ g4 s = w4 := Prod.mk.inj (Option.some.inj h2)
    have a5 : g2 s = w2 := Option.some.inj h3
    have a6 : g3 s = w3 := Option.some.inj h4
    show some (f1 s, f2 s, (g1 s, g2 s, g3 s, g4 s)) = _
    rw [a1, a2, a3, a4, a5, a6]
theorem run (w : PySem.World) : RunEq RR qv hkC obC 7500 names w := fun os => comb (r1 w os) (r2 w os) (r3 w os) (r4 w os)
end Cab
/-! DSrt -/
set_option Elab.async false
set_option linter.all false
set_option maxRecDepth 100000
set_option maxHeartbeats 1000000
/-! sorted(xs, key=f), xs a list or a tuple: what holds between two calls of f is told of the whole state. -/
namespace SrtG
open PySem PySem.Calls PyProof.Rows PySem.W
section
variable {prog : Program} {w : World} {A : Around} {E : Value → Shared → Prop} {s : Shared} {a kS : Addr} {b : Bool} {vs : List Value} {e1 : Nat} {P : PySem.Fin → Shared → Prop} {kz : List PyData}
/-- a heap without the object at b -/
theorem rid_none {h : Heap} {x : Addr} {o : Obj} (e : h.get? x = some o) : (h.update x fun o => { o with data := .freed }).get? x = none := by
  have h1 := ((Heap.get?_eq_some h x _).mp e).1
  unfold Heap.get?
  rw [Heap.objs_update_self, h1]
  rfl
/-- behind the keys' calls: J of the keys so far and the state -/
theorem rest {f : Value} {J : Array Value → Shared → Prop} (j0 : J #[] s)
    (get : ∀ kA s', J kA s' → (∃ e, s'.heap.get? kS = some (seqObj "list" kA e)) ∧ s'.heap.get? a = some (seqObj "list" #[] e1)) (hka : kS ≠ a)
    (hlen : kz.length = vs.length) (hZ : vs.length ≤ sizeLine) (hal : AllAlike kz) (hsk : Sortable kz) (hu : ∀ d, d ∈ kz → A.units + d.depth < cLine)
    (turn : ∀ (i : Nat) (v : Value), vs[i]? = some v → ∀ kA s1, J kA s1 → kA.size = i → wpAny (model prog w) A (call f [v]) (fun u s2 => (∃ e, s2.heap.get? kS = some (seqObj "list" kA e)) ∧ J (kA.push u) { s2 with heap := s2.heap.update kS (Obj.mapSeq (·.push u)) }) (fun _ _ => False) s1)
    (fin : ∀ kA s', J kA s' → kA.size = vs.length → EachIs (fun v k => ∃ as, Reads s'.heap v k as) kA.toList kz ∧
      ∀ h' tk out c, (∀ x o, x ≠ a → x ≠ kS → s'.heap.get? x = some o → h'.get? x = some o) → h'.get? a = some (seqObj "list" (List.toArray out) c) → KeyedOut b kz vs out → P (.done (.ret .none)) { s' with heap := h', toks := tk }) :
    wpAny (model prog w) A (ksk_rest a f b vs.toArray e1 (.ref kS)) P E s := by
  unfold ksk_rest
  refine wpAny_bind (wpAny_rule ?_)
  first
    | rw [List.forIn_toArray]
    | (rw [← Array.forIn_toList]; simp only [List.toList_toArray])
    | rw [← Array.forIn_toList]
  refine wpAny_bind (ksk_fold (fun i s' => ∃ kA, kA.size = i ∧ J kA s') vs 0 s ⟨#[], rfl, j0⟩ ?step ?done)
  case step =>
    rintro j x s' hx ⟨kA, hk, z1⟩
    simp only [Nat.zero_add] at hk ⊢
    have hj : j < vs.length := (List.getElem?_eq_some_iff.mp hx).1
    have hz : kA.size ≤ vs.length := by omega
    refine wpAny_bind (wpAny_attempt (wpAny_mono (turn j x hx kA s' z1 hk) (fun v s2 he => ?_) fun _ _ hF => hF.elim))
    obtain ⟨⟨e, nk2⟩, z2⟩ := he
    try dsimp only
    refine wpAny_bind (listUpdate_at nk2 rfl ?_ (Nat.le_trans hz hZ) (Nat.le_trans (Nat.le_of_eq (Array.size_push ..)) (Nat.succ_le_succ (Nat.le_trans hz hZ))))
    exact wpAny_pure ⟨rfl, kA.push v, by rw [Array.size_push, hk], z2⟩
  case done =>
    rintro s' ⟨kA, hk, z1⟩
    obtain ⟨⟨e, nk'⟩, na'⟩ := get kA s' z1
    have hsz : kA.size = vs.length := by omega
    obtain ⟨hk', hq⟩ := fin kA s' z1 hsz
    try dsimp only
    refine wpAny_bind (listItems_at nk' rfl ?_)
    refine keyH_end (κ := dataKind s'.heap kz) (h₁ := s'.heap.update kS fun o => { o with data := .freed }) (fun x o hx q => ?_) (rid_none nk') nk' na' hka (SortsAt.data (s := s') hk' hal hsk hu) hsz hZ fun h3 tk3 c k3 n3 => hq h3 tk3 _ c (fun x o hx hx2 q => k3 x o hx ?_) n3 ⟨s'.heap, kA.toList, hal, rfl, hk'⟩
    · by_cases hb : x = kS
      · rw [hb, rid_none nk'] at q; cases q
      · rw [Heap.get?_update_ne _ _ _ _ hb] at q; exact q
    · rw [Heap.get?_update_ne _ _ _ _ hx2]; exact q
theorem tree {f : Value} {n : Nat} {J : Addr → Nat → Array Value → Shared → Prop} (ho : s.heap.get? a = some (seqObj "list" vs.toArray n)) (hlen : kz.length = vs.length) (hZ : vs.length ≤ sizeLine) (hal : AllAlike kz) (hsk : Sortable kz) (hu : ∀ d, d ∈ kz → A.units + d.depth < cLine)
    (j0 : ∀ kS e1 h', s.heap.objs.size ≤ kS → (∀ x o, x ≠ a → s.heap.get? x = some o → h'.get? x = some o) → h'.get? kS = some (seqObj "list" #[] 0) → h'.get? a = some (seqObj "list" #[] e1) → J kS e1 #[] { s with heap := h' })
    (get : ∀ kS e1 kA s', J kS e1 kA s' → (∃ e, s'.heap.get? kS = some (seqObj "list" kA e)) ∧ s'.heap.get? a = some (seqObj "list" #[] e1))
    (turn : ∀ kS e1 (i : Nat) (v : Value), vs[i]? = some v → ∀ kA s1, J kS e1 kA s1 → kA.size = i → wpAny (model prog w) A (call f [v]) (fun u s2 => (∃ e, s2.heap.get? kS = some (seqObj "list" kA e)) ∧ J kS e1 (kA.push u) { s2 with heap := s2.heap.update kS (Obj.mapSeq (·.push u)) }) (fun _ _ => False) s1)
    (fin : ∀ kS e1 kA s', J kS e1 kA s' → kA.size = vs.length → EachIs (fun v k => ∃ as, Reads s'.heap v k as) kA.toList kz ∧
      ∀ h' tk out c, (∀ x o, x ≠ a → x ≠ kS → s'.heap.get? x = some o → h'.get? x = some o) → h'.get? a = some (seqObj "list" (List.toArray out) c) → KeyedOut b kz vs out → P (.done (.ret .none)) { s' with heap := h', toks := tk }) :
    wpAny (model prog w) A (ksk_tree a f b) P E s := by
  have ha : a < s.heap.objs.size := Heap.lt_size ho
  obtain ⟨e1, ho1⟩ : ∃ e1, (s.heap.update a (Obj.mapSeq fun _ => (#[] : Array Value))).get? a = some (seqObj "list" #[] e1) := ⟨_, get?_update_seq ho fun _ => #[]⟩
  have hkS : ((s.heap.update a (Obj.mapSeq fun _ => (#[] : Array Value))).push (seqObj "tuple" vs.toArray 0)).objs.size = s.heap.objs.size + 1 := by rw [size_push', Heap.size_update]
  unfold ksk_tree
  refine wpAny_bind (listItems_at ho rfl ?_)
  refine wpAny_bind (listUpdate_at ho rfl ?_ (by rw [List.size_toArray]; exact hZ) (Nat.zero_le _))
  refine wpAny_bind (seqEpoch_at ho1 rfl ?_)
  refine wpAny_bind (wpAny_newTuple ?_ (by show vs.length ≤ _; exact hZ))
  refine wpAny_bind (wpAny_newList ?_ (Nat.zero_le _))
  refine wpAny_holding ?_
  have kp : KeepsBut a s.heap (sortingHeap s.heap a vs) := fun b o hb q => sortingHeap_old hb q
  have j1 := j0 ((s.heap.update a (Obj.mapSeq fun _ => (#[] : Array Value))).push (seqObj "tuple" vs.toArray 0)).objs.size e1 (((s.heap.update a (Obj.mapSeq fun _ => (#[] : Array Value))).push (seqObj "tuple" vs.toArray 0)).push (seqObj "list" #[] 0)) (by rw [hkS]; exact Nat.le_succ _) kp (Heap.get?_push_size _ rfl) (Heap.get?_push_of_some _ (Heap.get?_push_of_some _ ho1))
  exact rest (J := J _ e1) j1 (get _ e1) (by rw [hkS]; exact Nat.ne_of_gt (Nat.lt_succ_of_lt ha)) hlen hZ hal hsk hu (turn _ e1) (fin _ e1)
end
section
variable {prog : Program} {w : World} {A : Around} {E : Value → Shared → Prop} {s : Shared} {vs : List Value} {kz : List PyData}
/-- sorted(xs, key=f) -/
theorem sorted_key {l : Addr} {f : Value} {T : String} {o : Obj} {n : Nat} {b : Bool} {Q : Value → Shared → Prop} {kw : List (Str × Value)} {J : Addr → Addr → Nat → Array Value → Shared → Prop} (hT : T = "list" ∨ T = "tuple") (hl : s.heap.get? l = some o) (hc : o.cls = .type T) (hd : o.data = .seq vs.toArray n)
    (hlen : kz.length = vs.length) (hZ : vs.length ≤ sizeLine) (hal : AllAlike kz) (hk : Sortable kz)
    (hu : ∀ d, d ∈ kz → A.units + 2 + d.depth < cLine) (ha1 : argsOk "sorted" ⟨[.ref l], kw⟩) (ha2 : ∀ x, argsOk "list.sort" ⟨[.ref x], kw⟩) (ht : ∀ x, Builtin.«list.sort» ⟨[.ref x], kw⟩ = ksk_tree x f b)
    (j0 : ∀ a kS e1 h', (∃ h1 : Heap, (∀ x o, s.heap.get? x = some o → h1.get? x = some o) ∧ h1.objs.size ≤ a) → a < kS → (∀ x o, s.heap.get? x = some o → h'.get? x = some o) → h'.get? kS = some (seqObj "list" #[] 0) → h'.get? a = some (seqObj "list" #[] e1) → J a kS e1 #[] { s with heap := h' })
    (get : ∀ a kS e1 kA s', J a kS e1 kA s' → (∃ e, s'.heap.get? kS = some (seqObj "list" kA e)) ∧ s'.heap.get? a = some (seqObj "list" #[] e1))
    (turn : ∀ a kS e1 (i : Nat) (v : Value), vs[i]? = some v → ∀ kA s1, J a kS e1 kA s1 → kA.size = i → wpAny (model prog w) A.in1.in1 (call f [v]) (fun u s2 => (∃ e, s2.heap.get? kS = some (seqObj "list" kA e)) ∧ J a kS e1 (kA.push u) { s2 with heap := s2.heap.update kS (Obj.mapSeq (·.push u)) }) (fun _ _ => False) s1)
    (fin : ∀ a kS e1 kA s', J a kS e1 kA s' → kA.size = vs.length → EachIs (fun v k => ∃ as, Reads s'.heap v k as) kA.toList kz ∧
      ∀ h' tk out c, (∀ x o, x ≠ a → x ≠ kS → s'.heap.get? x = some o → h'.get? x = some o) → h'.get? a = some (seqObj "list" (List.toArray out) c) → KeyedOut b kz vs out → Q (.ref a) { s' with heap := h', toks := tk }) :
    wpAny (model prog w) A (call (.builtin "sorted") [.ref l] kw) Q E s := by
  refine call_function_entry_kw kind_sorted plain_sorted entry_sorted ha1 ?_
  unfold Builtin.«sorted»
  refine wpAny_bind (m := checkCount "sorted" 1 1 _) (wpAny_pure ?_)
  refine wpAny_bind (wpAny_collect_seq l hT hl hc hd (fun h1 k1 => ?_) (by rw [List.size_toArray]; exact hZ))
  rw [show vs.toArray.toList = vs by simp]
  refine wpAny_bind (wpAny_newList ?_ hZ)
  have hoL : (h1.push (seqObj "list" vs.toArray 0)).get? h1.objs.size = some (seqObj "list" vs.toArray 0) := Heap.get?_push_size _ rfl
  refine wpAny_bind (wpAny_holding (wpAny_call_entry_kw slot_list_sort ⟨_, hoL, rfl⟩ entry_list_sort ?_ (ha2 _)))
  rw [ht]
  have hnew : ∀ x o, s.heap.get? x = some o → (h1.push (seqObj "list" vs.toArray 0)).get? x = some o := fun x o q => Heap.get?_push_of_some _ (k1 x o q)
  have hne : ∀ x o, s.heap.get? x = some o → x ≠ h1.objs.size := fun x o q => Nat.ne_of_lt (Heap.lt_size (k1 x o q))
  refine tree (J := J h1.objs.size) (s := { s with heap := h1.push (seqObj "list" vs.toArray 0) }) hoL hlen hZ hal hk (fun d hd => hu d hd) (fun kS e1 h' hs kp n1 n2 => ?_) (get _) (turn _) fun kS e1 kA s' j hs => ?_
  · refine j0 _ kS e1 h' ⟨h1, k1, Nat.le_refl _⟩ (Nat.lt_of_lt_of_le (by show h1.objs.size < (h1.push (seqObj "list" vs.toArray 0)).objs.size; rw [size_push']; exact Nat.lt_succ_self _) hs) (fun x o q => kp x o (hne x o q) (hnew x o q)) n1 n2
  · obtain ⟨r1, r2⟩ := fin _ kS e1 kA s' j hs
    exact ⟨r1, fun h' tk out c q1 q2 q3 => ⟨_, rfl, wpAny_pure ⟨_, rfl, r2 h' tk out c q1 q2 q3⟩⟩⟩
end
end SrtG
/-! DLam -/
set_option Elab.async false
set_option linter.all false
set_option maxRecDepth 100000
set_option maxHeartbeats 2000000
/-! sorted(xs, key=lambda y: ..) in the walk: the lambda has a parameter and captures names of the def that makes it. -/
namespace Lam3
open PySem PySem.Spec PyProof.Rows L2 LamX NdefX DL
/-- the lambda called -/
theorem run_lam {P : Program} {w : World} {K : PySem.W.Frag} {mg : Str → Option Value} {base : Heap} {N ps fr : List Str} {F : NF} {body : Expr} {f : Addr} {A : Around} {outer : List Env} {s : Shared} {H : Hp} {us : List Value} {vs : List V} {ws : List (Option V)} {Q : VK} {pm ctv : Value} {k : Nat} {t : TE}
    (S : NScope N ps fr F.scope) (hr : Room (k + 1) A) (e0 : Env0 P w K mg base A outer s H) (hf : s.heap.get? f = some (PySem.W.kla_obj F.name F.qual F.params body F.scope F.cl pm F.c ctv)) (hc : H F.c = some (CodeO F.c F.qual))
    (hb : bindArgs (PySem.W.kla_fn F.name F.qual F.params body F.scope F.cl pm (.ref F.c) ctv) ⟨us, []⟩ = pure (ps.zip us)) (hl : vs.length = ps.length) (C : CellsAt F.cl fr ws s.heap H) (r : Vals vs us)
    (hbody : Room k (A.deeper (envF F f s.heap.objs.size)) → PE (ncx CX0 P w K mg base N F f A outer s H E0) body t) (hq : t (startF N vs ws) H Q) :
    codeAny (model P w) A (.call (.ref f) ⟨us, []⟩) (CR CX0 outer P w H s Q E0) s := by
  have lim : s.heap.NoLimit := e0.mod.nolimit.keeps fun b o e => (e0.bs b o e).1
  refine PySem.W.kla_callFunE hr.depth hf rfl S.co S.gen rfl (codeO_at e0.hok hc) ?_
  rw [hb]
  refine wpAny_pure (wpAny_newFunctionEnv S.nocell (fun ⟨n, _⟩ hy => S.par n (List.of_mem_zip hy).1) (fun h₁ hns hsb => ⟨lim.fresh _ hsb, ?_⟩) S.kind)
  show codeAny _ _ (.expr body (envF F f s.heap.objs.size)) _ _
  have kp : ∀ b o, s.heap.get? b = some o → h₁.get? b = some o := fun b o e => hsb.extBut b o (Nat.ne_of_lt (Heap.lt_size e)) (Heap.get?_push_of_some _ e)
  have I : Inv (ncx CX0 P w K mg base N F f A outer s H E0) [] (startF N vs ws) H { s with heap := h₁, toks := s.toks + (ps.zip us).length } := inv_startN S hr.hd e0 hl r C hns kp
  refine PySem.W.kla_codeExpr (wpAny_mono ((hbody (hr.deeper _)).run [] _ _ H Q I hq) (fun u s' hs => ?_) fun e s' hs => hs)
  obtain ⟨v, H', J, rv, q⟩ := hs
  exact ⟨v, H', J.os, J.bare, J.base, J.hok, rv, q⟩
/-- the order of the keys -/
abbrev keyD (kf : Int → Int × Int) (n : Int) : PyData := .tuple [.int (kf n).1, .int (kf n).2]
/-- sorted(xs, key=lambda ..), xs a tuple of ints: I, what holds between two calls, of the lambda's code object and the keys so far -/
def tSortK (K : PySem.W.Frag) (q : Str) (t : TA) (N : List Str) (js : List Nat) (tb : TE) : TE := fun σ H Q => t σ H fun vs H1 => ∃ (a : Addr) (ns : List Int) (kf : Int → Int × Int) (I : Addr → List V → Hp → Prop),
  vs = [.ref a] ∧ SqT K H1 a (ns.map V.int) ∧ ns.length ≤ 1000 ∧ Tabs (Tb K) H1 ∧
  (∀ c' H2, ExtN H1 H2 → Tabs (Tb K) H2 → H2 c' = some (CodeO c' q) → I c' [] H2) ∧
  (∀ c' ks H2 n, I c' ks H2 → ns[ks.length]? = some n → H2 c' = some (CodeO c' q) ∧ tb (startF N [.int n] (js.map (slotAt σ))) H2 fun v H3 => I c' (ks ++ [v]) H3) ∧
  ∀ c' ks H2, I c' ks H2 → ks.length = ns.length → Paired (IsP K H2) ks (ns.map kf) ∧ ∀ p, H2 p = none → Q (.ref p) (upd H2 p (.lst ((ns.mergeSort (PySem.W.dataLe false (keyD kf))).map V.int)))
theorem vals_snoc : ∀ {ks : List V} {us : List Value} {v : V} {u : Value}, Vals ks us → RelV v u → Vals (ks ++ [v]) (us ++ [u])
  | _, _, _, _, .nil, r => .cons r .nil
  | _, _, _, _, .cons a t, r => .cons a (vals_snoc t r)
theorem vals_get : ∀ {ks : List V} {us : List Value} {i : Nat} {u : Value}, Vals ks us → us[i]? = some u → ∃ v, ks[i]? = some v ∧ RelV v u
  | _, _, i, u, .nil, h => by simp at h
  | _, _, 0, u, .cons a t, h => ⟨_, rfl, by simpa using (Option.some.inj h) ▸ a⟩
  | _, _, i + 1, u, .cons a t, h => vals_get (i := i) t h
theorem each_of {X : Cx} {pins : List (Addr × Obj)} {σ : L2.St} {H : Hp} {s : Shared} (I : Inv X pins σ H s) : ∀ {l : List V} {us : List Value} {ns : List Int} {kf : Int → Int × Int}, Paired (IsP X.K H) l (ns.map kf) → Vals l us → PySem.W.EachIs (fun v k => ∃ as, Reads s.heap v k as) us (ns.map (keyD kf))
  | _, _, [], _, .nil, .nil => .nil
  | _, _, n :: ns, kf, .cons a t, .cons r u => .cons (isP_holds I a r) (each_of I t u)
theorem ints_each {ns : List Int} : ∀ {us : List Value}, Vals (ns.map V.int) us → PySem.W.EachIs (fun (v : Value) (n : Int) => RelV (.int n) v) us ns := by
  induction ns with
  | nil => intro us h; cases h; exact .nil
  | cons n ns ih => intro us h; cases h with
    | cons r t => exact .cons r (ih t)
theorem each_ints : ∀ {us : List Value} {ns : List Int}, PySem.W.EachIs (fun (v : Value) (n : Int) => RelV (.int n) v) us ns → Vals (ns.map V.int) us
  | _, _, .nil => .nil
  | _, _, .cons r t => .cons r (each_ints t)
section
variable {X : Cx} {e : Expr} {params : Arguments} {body : Expr} {scope : Scope} {lpos kpos p pos : Pos} {t : TA} {js : List Nat} {N fr : List Str} {k : Nat} {tb : TE} {c P : Addr} {y : Str}
theorem pe_sortK (hg : Gl X "sorted") (hm : X.mg "sorted" = none) (hst : X.stack = X.env :: X.outer) (ha : PA X [e] t) (TB : TabB X.base X.mg c P) (hcode : X.env.code = .ref c) (hT : (P, X.env.qual ++ "<lambda>") ∈ Tb X.K) (hu : ∀ p ∈ Tb X.K, p.1 = P → p.2 = X.env.qual ++ "<lambda>")
    (hdef : defaultsOf params X.env = ([], [])) {sc : Scope} (hsc : X.env.scope = sc) (hnd : ndefB sc scope fr = true) (hjs : js.map (fun j => X.N[j]?) = fr.map some)
    (S : NScope N [y] fr scope) (hb : ∀ (cl : List (Str × Addr)) (pm cdv ctv u : Value), bindArgs (PySem.W.kla_fn "<lambda>" (X.env.qual ++ "<lambda>") params body scope cl pm cdv ctv) ⟨[u], []⟩ = pure [(y, u)]) (hr : Room (k + 3) X.A)
    (hbody : ∀ (F : NF) (f : Addr) (A : Around) (outer : List Env) (s : Shared) (H : Hp), F.scope = scope → Room k (A.deeper (envF F f s.heap.objs.size)) → PE (ncx CX0 X.prog X.w X.K X.mg X.base N F f A outer s H E0) body tb)
    (hunits : X.A.units + 64 < cLine)
    (he : backTo pos (starEach [e] X.env) = (false, eval e X.env) :: backTo pos (starEach [] X.env) := by rfl) (hpl : (backTo pos (starEach [e] X.env)).any (·.1) = false := by rfl)
    (hk : backToKw pos (keywordEach [⟨some "key", .Lambda params body scope lpos, kpos⟩] X.env) = [(some ("key" : Str), (do let v ← eval (.Lambda params body scope lpos) X.env; standAt pos; pure v : Sem Value))] := by rfl) :
    PE X (.Call (.Name "sorted" p) [e] [⟨some "key", .Lambda params body scope lpos, kpos⟩] pos) (tSortK X.K (X.env.qual ++ "<lambda>") t N js tb) := by
  have hfree : ∀ y ∈ scope.names, y.2 = .free → X.env.scope.names.lookup y.1 = some .cell ∨ X.env.scope.names.lookup y.1 = some .free := by rw [hsc]; exact ndef_free hnd
  have hfr : ∀ y ∈ fr, (y, NameKind.free) ∈ scope.names := ndef_fr hnd
  refine ⟨fun pins s σ H Q I h => ?_⟩
  refine wpAny_Call_Name_kw (ld_blt I hg hm (u := .builtin "sorted") (by decide +kernel) ?_ (by decide) (by decide))
  refine PyProof.Rows.callWith_kw (thn (ha.run pos pins s σ H _ I h) fun us s1 ⟨vs, H1, I1, r1, q1⟩ => ?_) he hpl (by rw [hk]; rfl) (by rw [hk]; rfl)
  rw [hk]
  have hfree2 : ∀ y ∈ scope.names, y.2 = .free → ∃ c, X.env.cells.lookup y.1 = some c := fun y hy e => (hfree y hy e).elim (fun z => I1.ok.has _ (.inl z)) fun z => I1.ok.has _ (.inr z)
  obtain ⟨a, ns, kf, II, rfl, hS, hn, hTb, i0, it, iend⟩ := q1
  show wpAny _ _ (evalAll [(do let v ← eval (.Lambda params body scope lpos) X.env; standAt pos; pure v)]) _ _ s1
  refine wpAny_evalAll_cons (wpAny_bind (lam_make2 I1 TB hcode hT hu hTb hdef hfree2 fun f c' pm ctv H2 s2 I2 hx hT2 hf hfn hfrs hc => wpAny_bind (wpAny_standAt (wpAny_pure (wpAny_evalAll_nil ?_)))))
  rw [Vals.ref1 r1]
  have hS2 : SqT X.K H2 a (ns.map V.int) := by
    rcases hS with (z | ⟨o, z⟩) | z
    · exact .inl (.inl (hx _ _ z fun _ q => nomatch q))
    · exact .inl (.inr ⟨o, hx _ _ z fun _ q => nomatch q⟩)
    · exact .inr z
  obtain ⟨its, rv, ⟨o, ho, hoc, n, hod⟩, hz⟩ := I2.tuple hS2
  rw [List.length_map] at hz
  have hlv : its.length = ns.length := by have := rv.length; rw [List.length_map] at this; exact this.symm
  have caps := Caps.made (fr := fr) (js := js) (scope := scope) I2.ok hfree hfr hjs
  have hfl : f ≠ X.env.locals := fun z => by
    obtain ⟨m, ⟨oL, es, ep, e1, e2, _⟩, _⟩ := I2.loc
    rw [z, e1] at hf
    rw [Option.some.inj hf] at e2
    cases e2
  have hff : f ∉ X.fs := fun z => hfrs (by
    have z : f ∈ X.outer.filterMap (·.frame) := z
    show f ∈ X.stack.filterMap (·.frame)
    rw [hst, List.filterMap_cons]
    split
    · exact z
    · exact List.mem_cons_of_mem _ z)
  have each := ints_each rv
  show wpAny _ _ (call (.builtin "sorted") [.ref a] [(Str.ofString "key", .ref f)]) _ _ s2
  refine SrtG.sorted_key (T := "tuple") (b := false) (kz := ns.map (keyD kf))
    (J := fun a kS e1 kA s' => ∃ (ee : Nat) (H' : Hp) (ks : List V), Inv X ((kS, seqObj "list" kA ee) :: (a, seqObj "list" #[] e1) :: (f, PySem.W.kla_obj "<lambda>" (X.env.qual ++ "<lambda>") params body scope (cloFrom X.env.cells scope.names []) pm c' ctv) :: pins) σ H' s' ∧ Vals ks kA.toList ∧ II c' ks H' ∧ X.s_0.heap.objs.size ≤ a ∧ a < kS ∧ (∀ p ∈ X.pn ++ pins, p.1 < a) ∧ f < a ∧ (∀ x c, X.env.cells.lookup x = some c → c < a) ∧ X.env.locals < a)
    (.inr rfl) ho hoc hod (by rw [List.length_map]; exact hlv.symm) (by rw [hlv]; exact hz) (PySem.W.AllAlike.of fun _ _ => by simp [PySem.W.alike, PySem.W.alikeAll]) (PySem.W.Sortable.tuples fun _ => ⟨_, _, rfl⟩)
    (fun d hd => by
      obtain ⟨m, _, rfl⟩ := List.mem_map.mp hd
      have hd : (keyD kf m).depth = 1 := by simp [PyData.depth, PyData.depthAll]
      omega) (PyProof.Rows.ksk_s1 _ _) (fun _ => PyProof.Rows.ksk_l1 _ _) (fun _ => PyProof.Rows.ksk_t1 _ _) ?_ ?_ ?_ ?_
  · rintro a kS e1 h' ⟨h1, k1, s1a⟩ hak kp n1 n2
    have Iw : Inv X pins σ H2 { s2 with heap := h1, toks := s2.toks } := I2.kept k1
    have I3 : Inv X pins σ H2 { s2 with heap := h', toks := s2.toks } := I2.kept kp
    have fa : H2 a = none := Iw.hok.fresh s1a
    have fk : H2 kS = none := Iw.hok.fresh (Nat.le_of_lt (Nat.lt_of_le_of_lt s1a hak))
    have lt1 : ∀ {b : Addr} {o : Obj}, s2.heap.get? b = some o → b < a := fun e => Nat.lt_of_lt_of_le (Heap.lt_size (k1 _ _ e)) s1a
    have la : X.env.locals < a := Nat.lt_of_lt_of_le Iw.lt s1a
    have pa : ∀ p ∈ X.pn ++ pins, p.1 < a := fun p hp => lt1 (I2.pin p hp).1
    have ca : ∀ x c, X.env.cells.lookup x = some c → c < a := fun x c e => by
      obtain ⟨v, o, ho, _⟩ := I2.cell x c e
      exact lt1 ho
    refine ⟨0, H2, [], I3.pins_of fun p hp => ?_, .nil, i0 c' H2 hx hT2 hc, Nat.le_trans Iw.sz s1a, hak, pa, lt1 hf, ca, la⟩
    rcases List.mem_cons.mp hp with z | hp
    · rw [z]; exact ⟨n1, fk, Nat.ne_of_gt (Nat.lt_trans la hak), Iw.nofs (Nat.le_of_lt (Nat.lt_of_le_of_lt s1a hak)), fun v z => nomatch z⟩
    · rcases List.mem_cons.mp hp with z | hp
      · rw [z]; exact ⟨n2, fa, Nat.ne_of_gt la, Iw.nofs s1a, fun v z => nomatch z⟩
      · rcases List.mem_cons.mp hp with z | hp
        · rw [z]; exact ⟨kp _ _ hf, hfn, hfl, hff, fun v z => nomatch z⟩
        · exact I3.pin p (List.mem_append_right _ hp)
  · rintro a kS e1 kA s' ⟨ee, H', ks, I', _⟩
    exact ⟨⟨ee, (I'.pin _ (List.mem_append_right _ List.mem_cons_self)).1⟩, (I'.pin _ (List.mem_append_right _ (List.mem_cons_of_mem _ List.mem_cons_self))).1⟩
  · rintro a kS e1 i v hv kA s1 ⟨ee, H', ks, I', rk, ii, h0, hak, hpn, hfa, hca, hla⟩ hi
    have hki : ks.length = i := by rw [rk.length, Array.length_toList]; exact hi
    obtain ⟨x, hx1, hx2⟩ := vals_get rv hv
    rw [List.getElem?_map] at hx1
    cases hni : ns[i]? with
    | none => rw [hni] at hx1; cases hx1
    | some m =>
      rw [hni] at hx1
      have ex : x = V.int m := (Option.some.inj hx1).symm
      subst ex
      obtain ⟨hc2, ht2⟩ := it c' ks H' m ii (by rw [hki]; exact hni)
      have pf := I'.pin _ (List.mem_append_right _ (List.mem_cons_of_mem _ (List.mem_cons_of_mem _ List.mem_cons_self)))
      have run := run_lam (F := ⟨"<lambda>", X.env.qual ++ "<lambda>", params, [], scope, cloFrom X.env.cells scope.names [], c'⟩) (N := N) (ps := [y]) (fr := fr) (t := tb) (Q := fun v H3 => II c' (ks ++ [v]) H3) S hr.in1.in1 I'.env0.in1.in1 pf.1 hc2 (hb _ _ _ _ _) rfl (cells_of I' caps) (.cons hx2 .nil) (fun hr' => hbody _ f _ _ _ _ rfl hr') ht2
      refine wpAny_call (codeAny_mono run fun r s' hq => ?_)
      cases r with
      | error e => exact hq.elim
      | ok fl =>
        cases fl with
        | next => exact False.elim hq
        | brk => exact False.elim hq
        | cont => exact False.elim hq
        | ret u =>
          obtain ⟨v2, H3, I3, rv2, q3⟩ := I'.after hq
          have pk := I3.pin _ (List.mem_append_right _ List.mem_cons_self)
          have pa := I3.pin _ (List.mem_append_right _ (List.mem_cons_of_mem _ List.mem_cons_self))
          have pf3 := I3.pin _ (List.mem_append_right _ (List.mem_cons_of_mem _ (List.mem_cons_of_mem _ List.mem_cons_self)))
          refine ⟨⟨ee, pk.1⟩, ?_⟩
          have I4 : Inv X pins σ H3 s' := I3.pins_of fun p hp => I3.pin p (List.mem_append_right _ (List.mem_cons_of_mem _ (List.mem_cons_of_mem _ (List.mem_cons_of_mem _ hp))))
          have kpu : ∀ b o, b ≠ kS → s'.heap.get? b = some o → (s'.heap.update kS (Obj.mapSeq (·.push u))).get? b = some o := fun b o hb e => (Heap.get?_update_ne _ _ _ _ hb).trans e
          have I5 := I4.turned (t' := s'.toks) (it := kS) kpu pk.2.1 pk.2.2.1 (.inr (Nat.le_trans h0 (Nat.le_of_lt hak))) (fun x c e => Nat.ne_of_lt (Nat.lt_trans (hca x c e) hak)) fun p hp => Nat.ne_of_lt (Nat.lt_trans (hpn p hp) hak)
          obtain ⟨ec, hec⟩ : ∃ ec, (s'.heap.update kS (Obj.mapSeq (·.push u))).get? kS = some (seqObj "list" (kA.push u) ec) := ⟨_, get?_update_seq pk.1 (·.push u)⟩
          refine ⟨ec, H3, ks ++ [v2], I5.pins_of fun p hp => ?_, by rw [Array.toList_push]; exact vals_snoc rk rv2, q3, h0, hak, hpn, hfa, hca, hla⟩
          rcases List.mem_cons.mp hp with z | hp
          · rw [z]; exact ⟨hec, pk.2.1, pk.2.2.1, pk.2.2.2.1, fun v z => nomatch z⟩
          · rcases List.mem_cons.mp hp with z | hp
            · rw [z]; exact ⟨kpu _ _ (Nat.ne_of_lt hak) pa.1, pa.2⟩
            · rcases List.mem_cons.mp hp with z | hp
              · rw [z]; exact ⟨kpu _ _ (Nat.ne_of_lt (Nat.lt_trans hfa hak)) pf3.1, pf3.2⟩
              · exact I5.pin p (List.mem_append_right _ hp)
  · rintro a kS e1 kA s' ⟨ee, H', ks, I', rk, ii, h0, hak, hpn, hfa, hca, hla⟩ hsz
    have hkl : ks.length = ns.length := by rw [rk.length, Array.length_toList, hsz, hlv]
    obtain ⟨hp2, hq⟩ := iend c' ks H' ii hkl
    refine ⟨each_of I' hp2 rk, fun h' tk out cc kp hout ko => ?_⟩
    have pk := I'.pin _ (List.mem_append_right _ List.mem_cons_self)
    have pa := I'.pin _ (List.mem_append_right _ (List.mem_cons_of_mem _ List.mem_cons_self))
    have I4 : Inv X pins σ H' s' := I'.pins_of fun p hp => I'.pin p (List.mem_append_right _ (List.mem_cons_of_mem _ (List.mem_cons_of_mem _ (List.mem_cons_of_mem _ hp))))
    have I5 := I4.turned (t' := tk) (it := kS) (h' := s'.heap.update kS fun o => { o with data := .freed }) (fun b o hb e => (Heap.get?_update_ne _ _ _ _ hb).trans e) pk.2.1 pk.2.2.1 (.inr (Nat.le_trans h0 (Nat.le_of_lt hak))) (fun x c e => Nat.ne_of_lt (Nat.lt_trans (hca x c e) hak)) fun p hp => Nat.ne_of_lt (Nat.lt_trans (hpn p hp) hak)
    have pa2 : (s'.heap.update kS fun o => { o with data := .freed }).get? a = some (seqObj "list" #[] e1) := (Heap.get?_update_ne _ _ _ _ (Nat.ne_of_lt hak)).trans pa.1
    have I6 := I5.turned (t' := tk) (it := a) (h' := (s'.heap.update kS fun o => { o with data := .freed }).update a fun o => { o with data := .freed }) (fun b o hb e => (Heap.get?_update_ne _ _ _ _ hb).trans e) pa.2.1 pa.2.2.1 (.inr h0) (fun x c e => Nat.ne_of_lt (hca x c e)) fun p hp => Nat.ne_of_lt (hpn p hp)
    have gone : ((s'.heap.update kS fun o => { o with data := .freed }).update a fun o => { o with data := .freed }).get? a = none := SrtG.rid_none pa2
    have kp2 : ∀ b o, ((s'.heap.update kS fun o => { o with data := .freed }).update a fun o => { o with data := .freed }).get? b = some o → b ≠ a ∧ h'.get? b = some o := fun b o e => by
      have hb : b ≠ a := fun z => by rw [z, gone] at e; cases e
      rw [Heap.get?_update_ne _ _ _ _ hb] at e
      have hb2 : b ≠ kS := fun z => by rw [z, SrtG.rid_none pk.1] at e; cases e
      rw [Heap.get?_update_ne _ _ _ _ hb2] at e
      exact ⟨hb, kp b o hb hb2 e⟩
    have eo := each_ints (PySem.W.keyedOut_each (keyD kf) ko each)
    have hlo : (ns.mergeSort (PySem.W.dataLe false (keyD kf))).length = ns.length := (List.mergeSort_perm _ _).length_eq
    generalize hms : ns.mergeSort (PySem.W.dataLe false (keyD kf)) = ms at eo hlo hq
    have I7 : Inv X pins σ (upd H' a (.lst (ms.map V.int))) { s' with heap := h', toks := tk } := by
      have un : Un X.fs [] H' (upd H' a (.lst (ms.map V.int))) ((s'.heap.update kS fun o => { o with data := .freed }).update a fun o => { o with data := .freed }) h' :=
        ⟨fun b o e _ _ _ => (kp2 b o e).2, fun b o e _ _ _ => ⟨o.slots, (kp2 b o e).2⟩, fun b o e n _ => by rw [upd_ne (kp2 b o e).1]; exact n, fun b o e _ => ⟨o, (kp2 b o e).2⟩, fun b xs e => by rw [upd_ne (ne_of_none e pa.2.1)]; exact e, fun b o u e => by rw [upd_ne (ne_of_none e pa.2.1)]; exact e, fun b ps e => ⟨#[], by rw [upd_ne (ne_of_none e pa.2.1), e]; simp⟩⟩
      refine I6.un un fun b u e => ?_
      by_cases hb : b = a
      · subst hb
        rw [upd_same] at e
        cases e
        exact ⟨by rw [List.length_map, hlo]; exact hz, out, cc, eo, hout⟩
      · rw [upd_ne hb] at e
        exact (I6.hok b u e).stay (fun d v _ q => (kp2 d v q).2) (fun d q => by rw [upd_ne (ne_of_none q pa.2.1)]; exact q) fun d xs q => by rw [upd_ne (ne_of_none q pa.2.1)]; exact q
    exact ⟨.ref a, _, I7, rfl, hq a pa.2.1⟩
/-- tuple(xs), the new object told -/
def rTupFz (K : PySem.W.Frag) : List V → Hp → VK → Prop := fun xs H Q => ∃ p ys, xs = [.ref p] ∧ SqL K H p ys ∧ ∀ l o, H l = none → o.dict = none → Q (.ref l) (upd H l (.frz o (.tup ys)))
theorem cr_tupFz : CallR X (.type "tuple") (rTupFz X.K) := by
  intro pins s σ H xs us Q I r h
  obtain ⟨p, ys, rfl, hq, q⟩ := h
  obtain ⟨u, rfl, rx⟩ := vals1 r
  cases rx
  obtain ⟨its, r', pl, hz⟩ := I.list hq
  have hlen := r'.length
  refine call_tuple_list pl.isList (fun h' kp => ?_) (by simp only [List.size_toArray] <;> omega)
  have I1 : Inv X pins σ H { s with heap := h' } := I.kept (t' := s.toks) kp
  have new : (h'.push { cls := .type "tuple", data := .seq its.toArray }).get? h'.objs.size = some { cls := .type "tuple", data := .seq its.toArray } := Heap.get?_push_size _ rfl
  have I2 := I1.laid (t' := s.toks) (a := h'.objs.size) (o := .frz { cls := .type "tuple", data := .seq its.toArray } (.tup ys)) (h' := h'.push { cls := .type "tuple", data := .seq its.toArray }) (fun b o e => Heap.get?_push_of_some _ e) (Nat.le_refl _) ⟨new, hz, its, r', IsTup.new _ _⟩
  exact ⟨.ref h'.objs.size, _, I2, rfl, q _ _ (I1.hok.fresh (Nat.le_refl _)) rfl⟩
theorem cr_tupFzK {K : PySem.W.Frag} (hK : X.K = K) : CallR X (.type "tuple") (rTupFz K) := hK ▸ cr_tupFz
end
section
variable {K : PySem.W.Frag} {b : Bs} {d : DL.St} {Q : Dt → DL.St → Prop}
theorem dc_tupFz {a : Addr} {ns : List Int} (ho : d.own a = some (.lst (ns.map Dt.int))) (q : Q (.tupx ns) d) : DC K b (rTupFz K) [.ptr a] d Q := fun F σ H R vs r P kk => by
  obtain ⟨v, e, rv⟩ := one_of r
  have rv : v = .ref a := by simpa only [Rel] using rv
  subst e; subst rv
  obtain ⟨_, _, us, h1, h2⟩ := R.own a _ ho
  refine ⟨a, us, rfl, SqL.of h1, fun l o hl hd => ?_⟩
  obtain ⟨e, R'⟩ := R.frz hl (.frz o (.tup us)) (fun _ z => nomatch z)
  refine kk (.ref l) _ _ (.tupx ns) d e R' ?_ q
  simp only [Rel]
  exact ⟨l, o, rfl, by rw [← relL_ints h2]; exact upd_same, hd⟩
/-- the sort, told of data -/
theorem de_sortK {q : Str} {t : TA} {N : List Str} {tb : TE} (hN : N.length = 3)
    (h : DA K b t d fun xs d1 => ∃ (ns : List Int) (kf : Int → Int × Int) (x1 x2 : Dt), xs = [.tup (ns.map Dt.int)] ∧ ns.length ≤ 1000 ∧ d1.sl[0]? = some (some x1) ∧ d1.sl[1]? = some (some x2) ∧
      (∀ (b' : Bs) (n : Int), n ∈ ns → DE K b' tb ⟨[some (.int n), some x1, some x2], d1.own⟩ fun r d' => d'.own = d1.own ∧ r = DL.pairD (kf n)) ∧
      ∀ p, d1.own p = none → Q (.ptr p) ⟨d1.sl, d1.own.put p (.lst ((ns.mergeSort (PySem.W.dataLe false (keyD kf))).map Dt.int))⟩) : DE K b (tSortK K q t N [0, 1] tb) d Q := fun F σ H R P kk =>
  h F σ H R _ fun vs H1 F1 xs d1 s1 R1 r1 ⟨ns, kf, x1, x2, e, hn, hx1, hx2, turn, qq⟩ => by
    subst e
    obtain ⟨v, e, rv⟩ := one_of r1
    simp only [Rel] at rv
    obtain ⟨a, us, e2, hS, hr⟩ := rv
    subst e; subst e2
    rw [relL_ints hr] at hS
    refine ⟨a, ns, kf, fun c' ks H' => ∃ (b' : Bs) (F' : Hp), Rl K b' F' d1 σ H' ∧ Same F1 F' ∧ RelL K F' ((ns.take ks.length).map fun n => DL.pairD (kf n)) ks ∧ ∀ (F'' : Hp) (d'' : DL.St) (σ'' : L2.St) (H'' : Hp), Same F1 F'' → Rl K b' F'' d'' σ'' H'' → H'' c' = some (CodeO c' q) ∧ Rl K b F'' d'' σ'' H'', rfl, sqt_mono R1.sub hS, hn, R1.tabs, ?_, ?_, ?_⟩
    · intro c' H2 hx hT2 hc
      have sub2 : Same F1 H2 := fun x o e => hx x o (R1.sub x o e) fun ps z => R1.nt x ps (by rw [e, z])
      have R2 : Rl K b F1 d1 σ H2 := R1.growN hx hT2 (Same.refl F1) sub2 R1.nt fun x o e => .inl e
      cases hB : b.B c' with
      | some o =>
        have e1 := R2.base c' o hB
        rw [hc] at e1
        refine ⟨b, F1, R2, Same.refl F1, RelL.nil, fun F'' d'' σ'' H'' _ R'' => ⟨?_, R''⟩⟩
        rw [e1]; exact R''.base c' o hB
      | none =>
        cases hF : F1 c' with
        | some o =>
          have e1 := R2.sub c' o hF
          rw [hc] at e1
          refine ⟨b, F1, R2, Same.refl F1, RelL.nil, fun F'' d'' σ'' H'' sf R'' => ⟨?_, R''⟩⟩
          rw [e1]; exact R''.sub c' o (sf c' o hF)
        | none =>
          have ho : d1.own c' = none := by
            cases z : d1.own c' with
            | none => rfl
            | some y =>
              have := (R2.own c' y z).2.2
              cases y with
              | lst xs => obtain ⟨_, h1, _⟩ := this; rw [hc] at h1; cases h1
              | ins C fs => obtain ⟨_, _, h1, _⟩ := this; rw [hc] at h1; cases h1
          have h0 : b.F0 c' = none := R1.old.free hF
          refine ⟨_, F1, R2.lay hF ho hc codeO_ne, Same.refl F1, RelL.nil, fun F'' d'' σ'' H'' sf R'' => ?_⟩
          obtain ⟨z1, z2, _, _⟩ := R''.unlay hB h0
          exact ⟨z2, z1⟩
    · rintro c' ks H2 n ⟨b', F', R', sF, rk, bck⟩ hget
      refine ⟨(bck F' d1 σ H2 sF R').1, ?_⟩
      obtain ⟨v1, s1', q1⟩ := R'.slots 0 x1 hx1
      obtain ⟨v2, s2', q2⟩ := R'.slots 1 x2 hx2
      have eσ : startF N [V.int n] ([0, 1].map (slotAt σ)) = [some (.int n), some v1, some v2] := by
        unfold startF
        rw [hN]
        show [some (V.int n)] ++ ([slotAt σ 0, slotAt σ 1] ++ List.replicate 0 none) = _
        rw [slotAt_of s1', slotAt_of s2']
        rfl
      rw [eσ]
      have Rs : Rl K b' F' ⟨[some (.int n), some x1, some x2], d1.own⟩ [some (.int n), some v1, some v2] H2 := R'.blk rfl fun i x e => by
        match i, e with
        | 0, e => cases e; exact ⟨_, rfl, relInt⟩
        | 1, e => cases e; exact ⟨_, rfl, q1⟩
        | 2, e => cases e; exact ⟨_, rfl, q2⟩
      refine turn b' n (List.mem_of_getElem? hget) F' _ H2 Rs _ fun v H3 F3 r d3 s3 R3 rel ⟨e1, e2⟩ => ?_
      have Rb : Rl K b' F3 d1 σ H3 := by
        have := R3.blk (sl := d1.sl) (σ' := σ) R'.len fun i x e => by
          obtain ⟨v, h1, h2⟩ := R'.slots i x e
          exact ⟨v, h1, h2.mono s3⟩
        rw [e1] at this
        exact this
      refine ⟨b', F3, Rb, sF.trans s3, ?_, bck⟩
      rw [List.length_append, List.length_singleton, List.take_add_one, hget, List.map_append]
      subst e2
      exact (rk.mono s3).append (.one rel)
    · rintro c' ks H2 ⟨b', F', R', sF, rk, bck⟩ hk
      rw [hk, List.take_length] at rk
      refine ⟨relL_pairs R'.sub (ps := ns.map kf) (by rw [List.map_map]; exact rk), fun p hp => ?_⟩
      exact kk (.ref p) _ F' (.ptr p) _ (s1.trans sF) ((bck F' d1 σ H2 sF R').2.owned hp (x := .lst _) ⟨_, upd_same, relL_intsI _⟩) relPtr (qq p (own_none R' hp))
end
end Lam3
/-! W1 -/
set_option Elab.async false
set_option linter.all false
set_option maxRecDepth 100000
set_option maxHeartbeats 4000000
namespace Cab
open PySem PySem.Spec PyProof.Rows L2 DL
local macro_rules | `(tactic| walk_at "d") => `(tactic| first
  | with_reducible refine dx_seq ?_ | with_reducible refine dx_ret ?_ | with_reducible refine dx_asg ?_ | ((with_reducible refine dg_name ?_); dsimp only [List.set])
  | with_reducible refine de_op ?_ | ((with_reducible refine' de_var ?h1 ?_); (case h1 => exact rfl)) | with_reducible refine de_int ?_ | with_reducible refine da_cons ?_ | with_reducible refine da_nil ?_
  | ((with_reducible refine' dr_xT ?h1 ?_); (case h1 => exact rfl)) | ((with_reducible refine' dr_xL ?h1 ?_); (case h1 => exact rfl)) | with_reducible refine dr_I0 ?_ | with_reducible refine dr_I0b ?_ | with_reducible refine de_callP ?_ | with_reducible refine de_callA ?_
  | with_reducible refine de_cb ?_ | with_reducible refine de_un ?_ | with_reducible refine du_I ?_ | with_reducible refine de_bl ?_ | with_reducible refine de_non ?_ | with_reducible refine de_str ?_ | with_reducible refine de_ty ?_
  | with_reducible refine dr_eqI ?_ | with_reducible refine dr_neI ?_ | with_reducible refine dr_eqS ?_ | with_reducible refine dr_isN ?_ | with_reducible refine dr_notN ?_
  | with_reducible refine dt_and ?_ | with_reducible refine dt_or ?_ | with_reducible refine dt_not ?_ | with_reducible refine de_if ?_ | with_reducible refine de_andV ?_ | with_reducible refine de_orV ?_ | with_reducible refine de_notV ?_
  | ((with_reducible refine dt_test ?_)) | ((with_reducible refine dt_B ?_))
  | with_reducible refine dx_par' ?_ | with_reducible refine dx_par3' ?_ | with_reducible refine ex_bl ?_ | with_reducible refine ex_int ?_ | with_reducible refine isi_int ?_ | with_reducible refine isi_intB ?_ | with_reducible refine isi_tup ?_ | with_reducible refine isi_tupS ?_ | with_reducible refine isi_str ?_ | with_reducible refine de_chain ?_ | with_reducible refine dt_chain ?_ | with_reducible refine iteT ?_ | with_reducible refine iteF ?_ | with_reducible refine dx_if ?_ | with_reducible refine dx_drop ?_ | with_reducible refine dx_cont ?_ | with_reducible refine dx_next ?_
  | with_reducible refine dc_abs ?_ | with_reducible refine dc_lenT ?_ | with_reducible refine dc_lenL ?_ | with_reducible refine dc_int ?_ | with_reducible refine dc_max2 ?_ | with_reducible refine dc_min2 ?_ | with_reducible refine dc_tupL ?_
  | with_reducible refine de_fldF ?_ ?_ ?_ | with_reducible refine de_tup ?_ | ((with_reducible refine len_ok ?h1 ?_); (case h1 => exact rfl))
  | ((with_reducible refine iteT' ?h1 ?_); (case h1 => rfl)) | ((with_reducible refine iteF' ?h1 ?_); (case h1 => rfl))
  | with_reducible refine ex_int2 ?_ | ((with_reducible refine' dg_tup ?h1 ?_); (case h1 => rfl)) | with_reducible refine dgs_cons ?_ | with_reducible refine dgs_nil ?_ | with_reducible refine dc_lenX ?_ | with_reducible refine dr_inX ?_
  | dsimp only [List.set])
/-- a comprehension's targets -/
local macro_rules | `(tactic| walk_at "w") => `(tactic| repeat first
  | exact wp_name (by simp) | exact mo_name | exact wps_nil | exact mos_nil
  | refine wp_tup ?_ | refine wps_cons ?_ ?_ ?_ ?_ | refine mo_tup ?_ | refine mos_cons ?_ ?_)
/-- ends that are told by a value: a bool, a pair -/
local macro_rules | `(tactic| walk_at "e") => `(tactic| first
  | walk_at "d"
  | ((with_reducible refine Exists.intro _ (And.intro rfl ?_))))
section
variable {P : Program} {w : World} {K : PySem.W.Frag} {mg : Str → Option Value} {base : Heap}
/-! ### fractions -/
def dq (r : Rat) : Dt := .tup [.int r.num, .int (r.den : Int)]
def Sz (r : Rat) : Prop := r.num.natAbs < 2 ^ 4000 ∧ r.den < 2 ^ 4000
theorem wmul {i j : Int} {a c : Nat} (ha : i.natAbs < 2 ^ a) (hb : j.natAbs < 2 ^ c) (h0 : 0 < a := by decide) (h1 : 0 < c := by decide) (h : a + c ≤ 1000000 := by decide) : CMulW i j := wide_mul ha hb h0 h1 h
theorem frac_eq {t m : Int} (hm : 0 < m) : dq (Rat.divInt t m) = .tup [.int (t / (Int.gcd t m : Nat)), .int (m / (Int.gcd t m : Nat))] := by
  have hs : m.sign = 1 := Int.sign_eq_one_of_pos hm
  have hg : 0 < Int.gcd t m := Int.gcd_pos_of_ne_zero_right _ (by omega)
  unfold dq
  rw [Rat.num_divInt, Rat.den_divInt, if_neg (by omega), hs, Int.one_mul, Int.gcd_comm m t]
  have e : ((m.natAbs : Nat) : Int) = m := Int.natAbs_of_nonneg (by omega)
  rw [Int.natCast_ediv, e]
def pr_is_integer : PrP := fun ds Q => ∃ i : Int, ds = [.int i] ∧ Q (.bl true)
theorem len_is_integer {ds Q} (p : pr_is_integer ds Q) : ds.length = 1 := by obtain ⟨_, rfl, _⟩ := p; rfl
theorem sc_is_integer : FnScope ["value"] ["value"] (defScope (topS 25)) := ⟨rfl, rfl, rfl, by decide +kernel, rfl, by decide +kernel, by decide +kernel⟩
theorem ok_is_integer (T : Txt K mg base) : Cal P w K mg base 1 "is_integer" ["value"] (spP K pr_is_integer) := by
  refine cal_pure (T.fn "is_integer" 25 (by decide +kernel)) sc_is_integer (fun _ _ _ _ _ _ us hl => match us, hl with | [_], _ => rfl) (fun ds Q p => len_is_integer p) fun cdv A outer s H f E hr =>
    ⟨_, (pss_one (ps_ret (pe_and (pe_cbK (r := rIsi K) call_isi (by decide +kernel) (T.free "isinstance" (by decide +kernel)) (by rfl) (pa_cons (pv 0) (pa_cons (pe_gty (n := "int") (T.free "int" (by decide +kernel)) (by decide +kernel) (by rfl)) pa_nil))) (pe_one (pe_not (pe_cbK (r := rIsi K) call_isi (by decide +kernel) (T.free "isinstance" (by decide +kernel)) (by rfl) (pa_cons (pv 0) (pa_cons (pe_gty (n := "bool") (T.free "bool" (by decide +kernel)) (by decide +kernel) (by rfl)) pa_nil)))))))), fun b ds Q p => ?_⟩
  obtain ⟨i, rfl, q⟩ := p
  simp only [startD, List.map_nil]
  repeat walk_at "d"
  exact q
def pr_is_between : PrP := fun ds Q => ∃ i lo hi : Int, ds = [.int i, .int lo, .int hi] ∧ Q (.bl (decide (lo ≤ i ∧ i ≤ hi)))
theorem len_is_between {ds Q} (p : pr_is_between ds Q) : ds.length = 3 := by obtain ⟨_, _, _, rfl, _⟩ := p; rfl
theorem sc_is_between : FnScope ["value", "low", "high"] ["value", "low", "high"] (defScope (topS 26)) := ⟨rfl, rfl, rfl, by decide +kernel, rfl, by decide +kernel, by decide +kernel⟩
theorem ok_is_between (T : Txt K mg base) : Cal P w K mg base 2 "is_between" ["value", "low", "high"] (spP K pr_is_between) := by
  refine cal_pure (T.fn "is_between" 26 (by decide +kernel)) sc_is_between (fun _ _ _ _ _ _ us hl => match us, hl with | [_, _, _], _ => rfl) (fun ds Q p => len_is_between p) fun cdv A outer s H f E hr =>
    ⟨_, (pss_one (ps_ret (pe_and (pe_cal (ok_is_integer (K := K) T) (hr.mono (by decide)) (by rfl) (pa_cons (pv 0) pa_nil)) (pe_one (pe_chain op_le op_le (pv 1) (pv 0) (pv 2)))))), fun b ds Q p => ?_⟩
  obtain ⟨i, lo, hi, rfl, q⟩ := p
  simp only [startD, List.map_nil]
  repeat walk_at "d"
  refine ⟨i, rfl, ?_⟩
  repeat walk_at "d"
  by_cases h : lo ≤ i
  · rw [if_pos (decide_eq_true h)]
    repeat walk_at "d"
    simp only [h, true_and] at q
    exact q
  · rw [if_neg (by simp [h])]
    simp only [h, false_and, decide_false] at q
    exact q
def pr_common : PrP := fun ds Q => ∃ a c : Int, ds = [.int a, .int c] ∧ Q (.int (Int.gcd a c : Nat))
theorem len_common {ds Q} (p : pr_common ds Q) : ds.length = 2 := by obtain ⟨_, _, rfl, _⟩ := p; rfl
theorem sc_common : FnScope ["one", "other", "high", "low"] ["one", "other"] (defScope (topS 27)) := ⟨rfl, rfl, rfl, by decide +kernel, rfl, by decide +kernel, by decide +kernel⟩
theorem ok_common (T : Txt K mg base) : Cal P w K mg base 1 "common" ["one", "other"] (spP K pr_common) := by
  refine cal_pure (T.fn "common" 27 (by decide +kernel)) sc_common (fun _ _ _ _ _ _ us hl => match us, hl with | [_, _], _ => rfl) (fun ds Q p => len_common p) fun cdv A outer s H f E hr =>
    ⟨_, (pss_cons (ps_par (i := 2) (j := 3) rfl sc_common.nd rfl rfl (by decide) rfl rfl (pa_cons (pe_cbK (r := DL.rAbs) call_abs' (by decide +kernel) (T.free "abs" (by decide +kernel)) (by rfl) (pa_cons (pv 0) pa_nil)) (pa_cons (pe_cbK (r := DL.rAbs) call_abs' (by decide +kernel) (T.free "abs" (by decide +kernel)) (by rfl) (pa_cons (pv 1) pa_nil)) pa_nil)) (by rfl))
      (pss_cons (ps_while PassesOwn.never (pt_cmpR op_gt (pv 3) pe_int (nomark _)) (pss_one (ps_par (i := 2) (j := 3) rfl sc_common.nd rfl rfl (by decide) rfl rfl (pa_cons (pv 3) (pa_cons (pe_op op_mod (pv 2) (pv 3)) pa_nil)) (by rfl))))
      (pss_one (ps_ret (pv 2))))), fun b ds Q p => ?_⟩
  obtain ⟨a, c, rfl, q⟩ := p
  simp only [startD, List.map_nil]
  repeat walk_at "d"
  refine dx_while (fun m d => ∃ h l : Int, d = ⟨[some (.int a), some (.int c), some (.int h), some (.int l)], own0⟩ ∧ 0 ≤ h ∧ 0 ≤ l ∧ l.toNat = m ∧ Int.gcd h l = Int.gcd a c) (if c < 0 then -c else c).toNat ⟨_, _, rfl, by split <;> omega, by split <;> omega, rfl, ?_⟩ ?_
  · split <;> split <;> simp [Int.gcd]
  · rintro m d ⟨h, l, rfl, h0, l0, hm, hg⟩
    repeat walk_at "d"
    by_cases hl : 0 < l
    · rw [if_pos (decide_eq_true hl)]
      repeat walk_at "d"
      refine dr_I hl ?_
      dsimp only [List.set]
      have hmod : 0 ≤ h % l := Int.emod_nonneg _ (by omega)
      have hlt : h % l < l := Int.emod_lt_of_pos _ hl
      refine ⟨(h % l).toNat, by omega, l, h % l, rfl, l0, hmod, rfl, ?_⟩
      rw [← hg]
      obtain ⟨h', rfl⟩ := Int.eq_ofNat_of_zero_le h0
      obtain ⟨l', rfl⟩ := Int.eq_ofNat_of_zero_le l0
      rw [← Int.natCast_emod]
      show Nat.gcd l' (h' % l') = Nat.gcd h' l'
      rw [Nat.gcd_comm h' l', Nat.gcd_rec l' h', Nat.gcd_comm]
    · rw [if_neg (by simpa using hl)]
      have e : l = 0 := by omega
      subst e
      repeat walk_at "d"
      have e2 : h = (Int.gcd a c : Nat) := by
        rw [← hg, Int.gcd_zero_right]; omega
      rw [e2]; exact q
def pr_fraction : PrP := fun ds Q => ∃ t m : Int, ds = [.int t, .int m] ∧ 0 < m ∧ m.natAbs < 2 ^ 9000 ∧ Q (dq (Rat.divInt t m))
theorem len_fraction {ds Q} (p : pr_fraction ds Q) : ds.length = 2 := by obtain ⟨_, _, rfl, _⟩ := p; rfl
theorem sc_fraction : FnScope ["top", "bottom", "shared"] ["top", "bottom"] (defScope (topS 28)) := ⟨rfl, rfl, rfl, by decide +kernel, rfl, by decide +kernel, by decide +kernel⟩
theorem ok_fraction (T : Txt K mg base) : Cal P w K mg base 2 "fraction" ["top", "bottom"] (spP K pr_fraction) := by
  refine cal_pure (T.fn "fraction" 28 (by decide +kernel)) sc_fraction (fun _ _ _ _ _ _ us hl => match us, hl with | [_, _], _ => rfl) (fun ds Q p => len_fraction p) fun cdv A outer s H f E hr =>
    ⟨_, (pss_cons (ps_set (i := 2) sc_fraction.nd rfl (.inl rfl) (pe_cal (ok_common (K := K) T) (hr.mono (by decide)) (by rfl) (pa_cons (pv 0) (pa_cons (pv 1) pa_nil))))
      (pss_one (ps_ret (pe_tup (pa_cons (pe_op op_fdivW (pv 0) (pv 2)) (pa_cons (pe_op op_fdivW (pv 1) (pv 2)) pa_nil)))))), fun b ds Q p => ?_⟩
  obtain ⟨t, m, rfl, hm, hz, q⟩ := p
  simp only [startD, List.map_nil]
  repeat walk_at "d"
  refine ⟨t, m, rfl, ?_⟩
  have hg : (0 : Int) < (Int.gcd t m : Nat) := by
    have := Int.gcd_pos_of_ne_zero_right t (show m ≠ 0 by omega)
    omega
  have hd : CDivW t (Int.gcd t m : Nat) := wide_div hg (b := 9000) (by
    have : Int.gcd t m ≤ m.natAbs := Nat.le_of_dvd (by omega) (Int.gcd_dvd_natAbs_right t m)
    omega) (by decide) (by decide)
  repeat walk_at "d"
  refine dr_I hd ?_
  repeat walk_at "d"
  refine dr_I hd ?_
  repeat walk_at "d"
  rw [frac_eq hm] at q
  exact q
def pr_is_fraction : PrP := fun ds Q => ∃ r : Rat, ds = [dq r] ∧ Q (.bl true)
theorem len_is_fraction {ds Q} (p : pr_is_fraction ds Q) : ds.length = 1 := by obtain ⟨_, rfl, _⟩ := p; rfl
theorem sc_is_fraction : FnScope ["value"] ["value"] (defScope (topS 29)) := ⟨rfl, rfl, rfl, by decide +kernel, rfl, by decide +kernel, by decide +kernel⟩
theorem ok_is_fraction (T : Txt K mg base) : Cal P w K mg base 2 "is_fraction" ["value"] (spP K pr_is_fraction) := by
  refine cal_pure (T.fn "is_fraction" 29 (by decide +kernel)) sc_is_fraction (fun _ _ _ _ _ _ us hl => match us, hl with | [_], _ => rfl) (fun ds Q p => len_is_fraction p) fun cdv A outer s H f E hr =>
    ⟨_, (pss_cons (ps_if (PW.pt (pw_or (pt_not (pt_val (pe_cbK (r := rIsi K) call_isi (by decide +kernel) (T.free "isinstance" (by decide +kernel)) (by rfl) (pa_cons (pv 0) (pa_cons (pe_gty (n := "tuple") (T.free "tuple" (by decide +kernel)) (by decide +kernel) (by rfl)) pa_nil))))) (pw_or (pt_cmpR op_ne (pe_cbK (r := DL.rLen K) call_len' boot_len (T.free "len" (by decide +kernel)) (by rfl) (pa_cons (pv 0) pa_nil)) pe_int (nomark _)) (pw_or (pt_not (pt_val (pe_cal (ok_is_integer (K := K) T) (hr.mono (by decide)) (by rfl) (pa_cons (pe_ixK (K := K) rfl (pv 0) pe_int) pa_nil)))) (pw_or1 (pt_not (pt_val (pe_cal (ok_is_integer (K := K) T) (hr.mono (by decide)) (by rfl) (pa_cons (pe_ixK (K := K) rfl (pv 0) pe_int) pa_nil))))))))) (pss_one (ps_ret pe_bl)) pss_nil)
      (pss_one (ps_ret (pe_and (pe_cmpR op_ge (pe_ixK (K := K) rfl (pv 0) pe_int) pe_int (nomark _)) (pe_one (pe_cmpR op_eq (pe_cal (ok_common (K := K) T) (hr.mono (by decide)) (by rfl) (pa_cons (pe_ixK (K := K) rfl (pv 0) pe_int) (pa_cons (pe_ixK (K := K) rfl (pv 0) pe_int) pa_nil))) pe_int (nomark _))))))), fun b ds Q p => ?_⟩
  obtain ⟨r, rfl, q⟩ := p
  simp only [startD, List.map_nil, dq]
  repeat walk_at "d"
  refine ⟨_, rfl, ?_⟩
  repeat walk_at "d"
  refine ⟨_, rfl, ?_⟩
  repeat walk_at "d"
  have h1 : (1 : Int) ≤ (r.den : Int) := by have := r.den_pos; omega
  refine iteT' (decide_eq_true h1) ?_
  repeat walk_at "d"
  refine ⟨_, _, rfl, ?_⟩
  repeat walk_at "d"
  have h2 : ((Int.gcd r.num r.den : Nat) : Int) = 1 := by
    have := r.reduced
    show ((Nat.gcd r.num.natAbs ((r.den : Int)).natAbs : Nat) : Int) = 1
    rw [Int.natAbs_natCast]; exact_mod_cast this
  rw [decide_eq_true h2]; exact q
def pr_plus : PrP := fun ds Q => ∃ r s : Rat, ds = [dq r, dq s] ∧ Sz r ∧ Sz s ∧ Q (dq (r + s))
theorem len_plus {ds Q} (p : pr_plus ds Q) : ds.length = 2 := by obtain ⟨_, _, rfl, _⟩ := p; rfl
theorem sc_plus : FnScope ["one", "other"] ["one", "other"] (defScope (topS 30)) := ⟨rfl, rfl, rfl, by decide +kernel, rfl, by decide +kernel, by decide +kernel⟩
theorem ok_plus (T : Txt K mg base) : Cal P w K mg base 3 "plus" ["one", "other"] (spP K pr_plus) := by
  refine cal_pure (T.fn "plus" 30 (by decide +kernel)) sc_plus (fun _ _ _ _ _ _ us hl => match us, hl with | [_, _], _ => rfl) (fun ds Q p => len_plus p) fun cdv A outer s H f E hr =>
    ⟨_, (pss_one (ps_ret (pe_cal (ok_fraction (K := K) T) (hr.mono (by decide)) (by rfl) (pa_cons (pe_op op_add (pe_op op_mulW (pe_ixK (K := K) rfl (pv 0) pe_int) (pe_ixK (K := K) rfl (pv 1) pe_int)) (pe_op op_mulW (pe_ixK (K := K) rfl (pv 1) pe_int) (pe_ixK (K := K) rfl (pv 0) pe_int))) (pa_cons (pe_op op_mulW (pe_ixK (K := K) rfl (pv 0) pe_int) (pe_ixK (K := K) rfl (pv 1) pe_int)) pa_nil))))), fun b ds Q p => ?_⟩
  obtain ⟨r, s, rfl, hr, hs, q⟩ := p
  simp only [startD, List.map_nil, dq]
  repeat walk_at "d"
  refine dr_I (wmul hr.1 (show ((s.den : Int)).natAbs < 2 ^ 4000 from hs.2)) ?_
  repeat walk_at "d"
  refine dr_I (wmul hs.1 (show ((r.den : Int)).natAbs < 2 ^ 4000 from hr.2)) ?_
  repeat walk_at "d"
  refine dr_I (wmul (show ((r.den : Int)).natAbs < 2 ^ 4000 from hr.2) (show ((s.den : Int)).natAbs < 2 ^ 4000 from hs.2)) ?_
  repeat walk_at "d"
  have pr := r.den_pos
  have ps := s.den_pos
  refine ⟨_, _, rfl, Int.mul_pos (by omega) (by omega), ?_, ?_⟩
  · have := wide_lt (i := (r.den : Int)) (j := (s.den : Int)) hr.2 hs.2
    exact Nat.lt_of_lt_of_le this (Nat.pow_le_pow_right (by decide) (by decide))
  · rw [Rat.add_def, Rat.normalize_eq_mkRat] at q
    rw [show ((r.den : Int) * (s.den : Int)) = ((r.den * s.den : Nat) : Int) by rw [Int.natCast_mul], Rat.divInt_ofNat]
    exact q
def pr_times : PrP := fun ds Q => ∃ (n : Int) (r : Rat), ds = [.int n, dq r] ∧ n.natAbs < 2 ^ 4000 ∧ Sz r ∧ Q (dq (n * r))
theorem len_times {ds Q} (p : pr_times ds Q) : ds.length = 2 := by obtain ⟨_, _, rfl, _⟩ := p; rfl
theorem sc_times : FnScope ["number", "one"] ["number", "one"] (defScope (topS 31)) := ⟨rfl, rfl, rfl, by decide +kernel, rfl, by decide +kernel, by decide +kernel⟩
theorem ok_times (T : Txt K mg base) : Cal P w K mg base 3 "times" ["number", "one"] (spP K pr_times) := by
  refine cal_pure (T.fn "times" 31 (by decide +kernel)) sc_times (fun _ _ _ _ _ _ us hl => match us, hl with | [_, _], _ => rfl) (fun ds Q p => len_times p) fun cdv A outer s H f E hr =>
    ⟨_, (pss_one (ps_ret (pe_cal (ok_fraction (K := K) T) (hr.mono (by decide)) (by rfl) (pa_cons (pe_op op_mulW (pv 0) (pe_ixK (K := K) rfl (pv 1) pe_int)) (pa_cons (pe_ixK (K := K) rfl (pv 1) pe_int) pa_nil))))), fun b ds Q p => ?_⟩
  obtain ⟨n, r, rfl, hn, hr', q⟩ := p
  simp only [startD, List.map_nil, dq]
  repeat walk_at "d"
  refine dr_I (wmul hn hr'.1) ?_
  repeat walk_at "d"
  have pr := r.den_pos
  refine ⟨_, _, rfl, by omega, Nat.lt_of_lt_of_le (show ((r.den : Int)).natAbs < 2 ^ 4000 from hr'.2) (Nat.pow_le_pow_right (by decide) (by decide)), ?_⟩
  have e : Rat.divInt (n * r.num) r.den = n * r := by
    rw [Rat.divInt_eq_div, Rat.intCast_mul]
    have h2 : r = (r.num : Rat) / ((r.den : Int) : Rat) := by
      rw [← Rat.divInt_eq_div]; exact (Rat.num_divInt_den r).symm
    conv => rhs; rw [h2]
    grind
  rw [e]; exact q
def pr_is_less : PrP := fun ds Q => ∃ r s : Rat, ds = [dq r, dq s] ∧ Sz r ∧ Sz s ∧ Q (.bl (decide (r < s)))
theorem len_is_less {ds Q} (p : pr_is_less ds Q) : ds.length = 2 := by obtain ⟨_, _, rfl, _⟩ := p; rfl
theorem sc_is_less : FnScope ["one", "other"] ["one", "other"] (defScope (topS 32)) := ⟨rfl, rfl, rfl, by decide +kernel, rfl, by decide +kernel, by decide +kernel⟩
theorem ok_is_less (T : Txt K mg base) : Cal P w K mg base 1 "is_less" ["one", "other"] (spP K pr_is_less) := by
  refine cal_pure (T.fn "is_less" 32 (by decide +kernel)) sc_is_less (fun _ _ _ _ _ _ us hl => match us, hl with | [_, _], _ => rfl) (fun ds Q p => len_is_less p) fun cdv A outer s H f E hr =>
    ⟨_, (pss_one (ps_ret (pe_cmpR op_lt (pe_op op_mulW (pe_ixK (K := K) rfl (pv 0) pe_int) (pe_ixK (K := K) rfl (pv 1) pe_int)) (pe_op op_mulW (pe_ixK (K := K) rfl (pv 1) pe_int) (pe_ixK (K := K) rfl (pv 0) pe_int)) (nomark _)))), fun b ds Q p => ?_⟩
  obtain ⟨r, s, rfl, hr, hs, q⟩ := p
  simp only [startD, List.map_nil, dq]
  repeat walk_at "d"
  refine dr_I (wmul hr.1 (show ((s.den : Int)).natAbs < 2 ^ 4000 from hs.2)) ?_
  repeat walk_at "d"
  refine dr_I (wmul hs.1 (show ((r.den : Int)).natAbs < 2 ^ 4000 from hr.2)) ?_
  repeat walk_at "d"
  rw [show decide (r < s) = decide (r.num * (s.den : Int) < s.num * (r.den : Int)) from decide_eq_decide.mpr (Rat.lt_iff r s)] at q
  exact q
end
end Cab
/-! W2 -/
set_option Elab.async false
set_option linter.all false
set_option maxRecDepth 100000
set_option maxHeartbeats 4000000
namespace Cab
open PySem PySem.Spec PyProof.Rows L2 DL
local macro_rules | `(tactic| walk_at "d") => `(tactic| first
  | with_reducible refine dx_seq ?_ | with_reducible refine dx_ret ?_ | with_reducible refine dx_asg ?_ | ((with_reducible refine dg_name ?_); dsimp only [List.set])
  | with_reducible refine de_op ?_ | ((with_reducible refine' de_var ?h1 ?_); (case h1 => exact rfl)) | with_reducible refine de_int ?_ | with_reducible refine da_cons ?_ | with_reducible refine da_nil ?_
  | ((with_reducible refine' dr_xT ?h1 ?_); (case h1 => exact rfl)) | ((with_reducible refine' dr_xL ?h1 ?_); (case h1 => exact rfl)) | with_reducible refine dr_I0 ?_ | with_reducible refine dr_I0b ?_ | with_reducible refine de_callP ?_ | with_reducible refine de_callA ?_
  | with_reducible refine de_cb ?_ | with_reducible refine de_un ?_ | with_reducible refine du_I ?_ | with_reducible refine de_bl ?_ | with_reducible refine de_non ?_ | with_reducible refine de_str ?_ | with_reducible refine de_ty ?_
  | with_reducible refine dr_eqI ?_ | with_reducible refine dr_neI ?_ | with_reducible refine dr_eqS ?_ | with_reducible refine dr_isN ?_ | with_reducible refine dr_notN ?_
  | with_reducible refine dt_and ?_ | with_reducible refine dt_or ?_ | with_reducible refine dt_not ?_ | with_reducible refine de_if ?_ | with_reducible refine de_andV ?_ | with_reducible refine de_orV ?_ | with_reducible refine de_notV ?_
  | ((with_reducible refine dt_test ?_)) | ((with_reducible refine dt_B ?_))
  | with_reducible refine dx_par' ?_ | with_reducible refine dx_par3' ?_ | with_reducible refine ex_bl ?_ | with_reducible refine ex_int ?_ | with_reducible refine isi_int ?_ | with_reducible refine isi_intB ?_ | with_reducible refine isi_tup ?_ | with_reducible refine isi_tupS ?_ | with_reducible refine isi_str ?_ | with_reducible refine de_chain ?_ | with_reducible refine dt_chain ?_ | with_reducible refine iteT ?_ | with_reducible refine iteF ?_ | with_reducible refine dx_if ?_ | with_reducible refine dx_drop ?_ | with_reducible refine dx_cont ?_ | with_reducible refine dx_next ?_
  | with_reducible refine dc_abs ?_ | with_reducible refine dc_lenT ?_ | with_reducible refine dc_lenL ?_ | with_reducible refine dc_int ?_ | with_reducible refine dc_max2 ?_ | with_reducible refine dc_min2 ?_ | with_reducible refine dc_tupL ?_
  | with_reducible refine de_fldF ?_ ?_ ?_ | with_reducible refine de_tup ?_ | ((with_reducible refine len_ok ?h1 ?_); (case h1 => exact rfl))
  | ((with_reducible refine iteT' ?h1 ?_); (case h1 => rfl)) | ((with_reducible refine iteF' ?h1 ?_); (case h1 => rfl))
  | with_reducible refine ex_int2 ?_ | ((with_reducible refine' dg_tup ?h1 ?_); (case h1 => rfl)) | with_reducible refine dgs_cons ?_ | with_reducible refine dgs_nil ?_ | with_reducible refine dc_lenX ?_ | with_reducible refine dr_inX ?_
  | dsimp only [List.set])
/-- a comprehension's targets -/
local macro_rules | `(tactic| walk_at "w") => `(tactic| repeat first
  | exact wp_name (by simp) | exact mo_name | exact wps_nil | exact mos_nil
  | refine wp_tup ?_ | refine wps_cons ?_ ?_ ?_ ?_ | refine mo_tup ?_ | refine mos_cons ?_ ?_)
/-- ends that are told by a value: a bool, a pair -/
local macro_rules | `(tactic| walk_at "e") => `(tactic| first
  | walk_at "d"
  | ((with_reducible refine Exists.intro _ (And.intro rfl ?_))))
section
variable {P : Program} {w : World} {K : PySem.W.Frag} {mg : Str → Option Value} {base : Heap}
/-! ### rides -/
structure Rid where
  costs : List Int
  riders : List (Int × Int × Int)
def dcosts (c : List Int) : Dt := .tup (c.map Dt.int)
def drider (p : Int × Int × Int) : Dt := .tup [.int p.1, .int p.2.1, .int p.2.2]
def driders (p : List (Int × Int × Int)) : Dt := .tup (p.map drider)
def dride (K : PySem.W.Frag) (r : Rid) : Dt := .ins (He.ga K "Ride") [("costs", dcosts r.costs), ("riders", driders r.riders), ("told", .tup [dcosts r.costs, driders r.riders])]
theorem fld_costs (T : Txt K mg base) {b : Bs} {te : TE} {d : DL.St} {Q : Dt → DL.St → Prop} (h : DE K b te d fun x d1 => ∃ r, x = dride K r ∧ Q (dcosts r.costs) d1) : DE K b (tFld K te "costs") d Q :=
  de_fldF (T.cls "Ride" (by decide +kernel)).1 (T.noat "Ride" "costs" (by decide +kernel)) fun F σ H R P kk => h F σ H R P fun v H' F' x d' s R' r ⟨z, e, q⟩ => kk v H' F' x d' s R' r ⟨_, _, e, by rfl, q⟩
theorem fld_riders (T : Txt K mg base) {b : Bs} {te : TE} {d : DL.St} {Q : Dt → DL.St → Prop} (h : DE K b te d fun x d1 => ∃ r, x = dride K r ∧ Q (driders r.riders) d1) : DE K b (tFld K te "riders") d Q :=
  de_fldF (T.cls "Ride" (by decide +kernel)).1 (T.noat "Ride" "riders" (by decide +kernel)) fun F σ H R P kk => h F σ H R P fun v H' F' x d' s R' r ⟨z, e, q⟩ => kk v H' F' x d' s R' r ⟨_, _, e, by rfl, q⟩
theorem fld_told (T : Txt K mg base) {b : Bs} {te : TE} {d : DL.St} {Q : Dt → DL.St → Prop} (h : DE K b te d fun x d1 => ∃ r, x = dride K r ∧ Q (.tup [dcosts r.costs, driders r.riders]) d1) : DE K b (tFld K te "told") d Q :=
  de_fldF (T.cls "Ride" (by decide +kernel)).1 (T.noat "Ride" "told" (by decide +kernel)) fun F σ H R P kk => h F σ H R P fun v H' F' x d' s R' r ⟨z, e, q⟩ => kk v H' F' x d' s R' r ⟨_, _, e, by rfl, q⟩
def CostsOk (c : List Int) : Prop := 1 ≤ c.length ∧ c.length ≤ 12 ∧ ∀ x ∈ c, 0 ≤ x ∧ x ≤ 1000000
def RiderOk (n : Int) (p : Int × Int × Int) : Prop := 0 ≤ p.1 ∧ p.1 ≤ n - 1 ∧ p.1 + 1 ≤ p.2.1 ∧ p.2.1 ≤ n ∧ 0 ≤ p.2.2 ∧ p.2.2 ≤ 9
def RidersOk (n : Int) (l : List (Int × Int × Int)) : Prop := 1 ≤ l.length ∧ l.length ≤ 6 ∧ ∀ p ∈ l, RiderOk n p
/-- the places of those aboard on a stretch -/
def aboard (l : List (Int × Int × Int)) (t : Int) : List Int := ((List.range l.length).filter fun i => decide ((l.getD i (0, 0, 0)).1 ≤ t ∧ t < (l.getD i (0, 0, 0)).2.1)).map fun i => ((i : Nat) : Int)
def RidOk (r : Rid) : Prop := CostsOk r.costs ∧ RidersOk r.costs.length r.riders ∧ ∀ t : Nat, t < r.costs.length → (aboard r.riders t).length ≤ 4
def OrdOk (o : Str) : Prop := o = "number" ∨ o = "sat" ∨ o = "bags"
theorem btw {i lo hi : Int} {Q : Dt → Prop} (h : lo ≤ i ∧ i ≤ hi) (q : Q (.bl true)) : pr_is_between [.int i, .int lo, .int hi] Q := between_yes (fun _ h => h) h q
def pr_check_order : PrP := fun ds Q => ∃ o : Str, ds = [.str o] ∧ OrdOk o ∧ Q .non
theorem len_check_order {ds Q} (p : pr_check_order ds Q) : ds.length = 1 := by obtain ⟨_, rfl, _⟩ := p; rfl
theorem sc_check_order : FnScope ["value"] ["value"] (defScope (topS 35)) := ⟨rfl, rfl, rfl, by decide +kernel, rfl, by decide +kernel, by decide +kernel⟩
theorem ok_check_order (T : Txt K mg base) : Cal P w K mg base 1 "check_order" ["value"] (spP K pr_check_order) := by
  refine cal_pure (T.fn "check_order" 35 (by decide +kernel)) sc_check_order (fun _ _ _ _ _ _ us hl => match us, hl with | [_], _ => rfl) (fun ds Q p => len_check_order p) fun cdv A outer s H f E hr =>
    ⟨_, (pss_one (ps_if (PW.pt (pw_or (pt_not (pt_val (pe_cbK (r := rIsi K) call_isi (by decide +kernel) (T.free "isinstance" (by decide +kernel)) (by rfl) (pa_cons (pv 0) (pa_cons (pe_gty (n := "str") (T.free "str" (by decide +kernel)) (by decide +kernel) (by rfl)) pa_nil))))) (pw_or1 (pt_cmpR (r := rIn K true) op_notIn_seq (pv 0) (pe_gref T.orders.1 (by rfl)) rfl)))) (pss_one ps_never) pss_nil)), fun b ds Q p => ?_⟩
  obtain ⟨o, rfl, ho, q⟩ := p
  simp only [startD, List.map_nil]
  repeat walk_at "d"
  refine de_gtup (ns := ["number", "sat", "bags"]) T.orders.2 ?_
  refine dr_notInS ?_
  have e : (!decide (o ∈ (["number", "sat", "bags"] : List Str))) = false := by
    rcases ho with h | h | h <;> (subst h; decide +kernel)
  rw [e]
  repeat walk_at "d"
  exact q
def pr_check_costs : PrP := fun ds Q => ∃ c : List Int, ds = [dcosts c] ∧ CostsOk c ∧ Q .non
theorem len_check_costs {ds Q} (p : pr_check_costs ds Q) : ds.length = 1 := by obtain ⟨_, rfl, _⟩ := p; rfl
theorem sc_check_costs : FnScope ["value", "index", "cost"] ["value"] (defScope (topS 36)) := ⟨rfl, rfl, rfl, by decide +kernel, rfl, by decide +kernel, by decide +kernel⟩
theorem ok_check_costs (T : Txt K mg base) : Cal P w K mg base 3 "check_costs" ["value"] (spP K pr_check_costs) := by
  refine cal_pure (T.fn "check_costs" 36 (by decide +kernel)) sc_check_costs (fun _ _ _ _ _ _ us hl => match us, hl with | [_], _ => rfl) (fun ds Q p => len_check_costs p) fun cdv A outer s H f E hr =>
    ⟨_, (pss_cons (ps_if (PW.pt (pw_or (pt_not (pt_val (pe_cbK (r := rIsi K) call_isi (by decide +kernel) (T.free "isinstance" (by decide +kernel)) (by rfl) (pa_cons (pv 0) (pa_cons (pe_gty (n := "tuple") (T.free "tuple" (by decide +kernel)) (by decide +kernel) (by rfl)) pa_nil))))) (pw_or1 (pt_not (pt_chain op_le op_le pe_int (pe_cbK (r := DL.rLen K) call_len' boot_len (T.free "len" (by decide +kernel)) (by rfl) (pa_cons (pv 0) pa_nil)) (pe_gint (T.gint "MOST_STRETCHES" 12 (by decide +kernel)) (by rfl))))))) (pss_one ps_never) pss_nil)
      (pss_one (ps_for PassesOwn.never rfl (pi_enumTK (K := K) rfl (by rfl) (T.free "enumerate" (by decide +kernel)) (pa_cons (pv 0) pa_nil)) (pg_tupK (K := K) (n := 2) rfl rfl (pgs_cons (pg_name (i := 1) sc_check_costs.nd rfl (.inl rfl)) (pgs_cons (pg_name (i := 2) sc_check_costs.nd rfl (.inl rfl)) pgs_nil)))
      (pss_one (ps_if (pt_not (pt_val (pe_cal (ok_is_between (K := K) T) (hr.mono (by decide)) (by rfl) (pa_cons (pv 2) (pa_cons pe_int (pa_cons (pe_gint (T.gint "MOST_COST" 1000000 (by decide +kernel)) (by rfl)) pa_nil)))))) (pss_one ps_never) pss_nil))))), fun b ds Q p => ?_⟩
  obtain ⟨c, rfl, hc, q⟩ := p
  simp only [startD, List.map_nil, dcosts]
  repeat walk_at "d"
  rw [List.length_map]
  refine iteT' (decide_eq_true (by have := hc.1; omega)) ?_
  repeat walk_at "d"
  refine iteF' (by simp; have := hc.2.1; omega) ?_
  repeat walk_at "d"
  refine dx_for (di_enumT ?_)
  repeat walk_at "d"
  refine ⟨c.map Dt.int, rfl, fun i d => ∃ x y, d = ⟨[some (.tup (c.map Dt.int)), x, y], own0⟩, ⟨_, _, rfl⟩, fun _ _ _ _ => trivial, ?_, ?_⟩
  · rintro i x d hx ⟨u, v, rfl⟩
    obtain ⟨y, hy, rfl⟩ := enumD_get hx
    obtain ⟨z, hz, rfl⟩ := map_get hy
    repeat walk_at "d"
    refine btw (hc.2.2 z (List.mem_of_getElem? hz)) ?_
    repeat walk_at "d"
    exact ⟨_, _, rfl⟩
  · rintro d ⟨u, v, rfl⟩
    exact q
def pr_is_rider : PrP := fun ds Q => ∃ (p : Int × Int × Int) (n : Int), ds = [drider p, .int n] ∧ RiderOk n p ∧ Q (.bl true)
theorem len_is_rider {ds Q} (p : pr_is_rider ds Q) : ds.length = 2 := by obtain ⟨_, _, rfl, _⟩ := p; rfl
theorem sc_is_rider : FnScope ["value", "stretches"] ["value", "stretches"] (defScope (topS 37)) := ⟨rfl, rfl, rfl, by decide +kernel, rfl, by decide +kernel, by decide +kernel⟩
theorem ok_is_rider (T : Txt K mg base) : Cal P w K mg base 3 "is_rider" ["value", "stretches"] (spP K pr_is_rider) := by
  refine cal_pure (T.fn "is_rider" 37 (by decide +kernel)) sc_is_rider (fun _ _ _ _ _ _ us hl => match us, hl with | [_, _], _ => rfl) (fun ds Q p => len_is_rider p) fun cdv A outer s H f E hr =>
    ⟨_, (pss_cons (ps_if (PW.pt (pw_or (pt_not (pt_val (pe_cbK (r := rIsi K) call_isi (by decide +kernel) (T.free "isinstance" (by decide +kernel)) (by rfl) (pa_cons (pv 0) (pa_cons (pe_gty (n := "tuple") (T.free "tuple" (by decide +kernel)) (by decide +kernel) (by rfl)) pa_nil))))) (pw_or (pt_cmpR op_ne (pe_cbK (r := DL.rLen K) call_len' boot_len (T.free "len" (by decide +kernel)) (by rfl) (pa_cons (pv 0) pa_nil)) pe_int (nomark _)) (pw_or1 (pt_not (pt_val (pe_cal (ok_is_between (K := K) T) (hr.mono (by decide)) (by rfl) (pa_cons (pe_ixK (K := K) rfl (pv 0) pe_int) (pa_cons pe_int (pa_cons (pe_op op_sub (pv 1) pe_int) pa_nil)))))))))) (pss_one (ps_ret pe_bl)) pss_nil)
      (pss_one (ps_ret (pe_and (pe_cal (ok_is_between (K := K) T) (hr.mono (by decide)) (by rfl) (pa_cons (pe_ixK (K := K) rfl (pv 0) pe_int) (pa_cons (pe_op op_add (pe_ixK (K := K) rfl (pv 0) pe_int) pe_int) (pa_cons (pv 1) pa_nil)))) (pe_one (pe_cal (ok_is_between (K := K) T) (hr.mono (by decide)) (by rfl) (pa_cons (pe_ixK (K := K) rfl (pv 0) pe_int) (pa_cons pe_int (pa_cons (pe_gint (T.gint "MOST_BAGS" 9 (by decide +kernel)) (by rfl)) pa_nil))))))))), fun b ds Q p => ?_⟩
  obtain ⟨p, n, rfl, hp, q⟩ := p
  obtain ⟨h1, h2, h3, h4, h5, h6⟩ := hp
  simp only [startD, List.map_nil, drider]
  repeat walk_at "d"
  refine btw ⟨h1, h2⟩ ?_
  repeat walk_at "d"
  refine btw ⟨h3, h4⟩ ?_
  repeat walk_at "d"
  refine btw ⟨h5, h6⟩ ?_
  exact q
def pr_check_riders : PrP := fun ds Q => ∃ (l : List (Int × Int × Int)) (n : Int), ds = [driders l, .int n] ∧ RidersOk n l ∧ Q .non
theorem len_check_riders {ds Q} (p : pr_check_riders ds Q) : ds.length = 2 := by obtain ⟨_, _, rfl, _⟩ := p; rfl
theorem sc_check_riders : FnScope ["value", "stretches", "index", "rider"] ["value", "stretches"] (defScope (topS 38)) := ⟨rfl, rfl, rfl, by decide +kernel, rfl, by decide +kernel, by decide +kernel⟩
theorem ok_check_riders (T : Txt K mg base) : Cal P w K mg base 4 "check_riders" ["value", "stretches"] (spP K pr_check_riders) := by
  refine cal_pure (T.fn "check_riders" 38 (by decide +kernel)) sc_check_riders (fun _ _ _ _ _ _ us hl => match us, hl with | [_, _], _ => rfl) (fun ds Q p => len_check_riders p) fun cdv A outer s H f E hr =>
    ⟨_, (pss_cons (ps_if (PW.pt (pw_or (pt_not (pt_val (pe_cbK (r := rIsi K) call_isi (by decide +kernel) (T.free "isinstance" (by decide +kernel)) (by rfl) (pa_cons (pv 0) (pa_cons (pe_gty (n := "tuple") (T.free "tuple" (by decide +kernel)) (by decide +kernel) (by rfl)) pa_nil))))) (pw_or1 (pt_not (pt_chain op_le op_le pe_int (pe_cbK (r := DL.rLen K) call_len' boot_len (T.free "len" (by decide +kernel)) (by rfl) (pa_cons (pv 0) pa_nil)) (pe_gint (T.gint "MOST_RIDERS" 6 (by decide +kernel)) (by rfl))))))) (pss_one ps_never) pss_nil)
      (pss_one (ps_for PassesOwn.never rfl (pi_enumTK (K := K) rfl (by rfl) (T.free "enumerate" (by decide +kernel)) (pa_cons (pv 0) pa_nil)) (pg_tupK (K := K) (n := 2) rfl rfl (pgs_cons (pg_name (i := 2) sc_check_riders.nd rfl (.inl rfl)) (pgs_cons (pg_name (i := 3) sc_check_riders.nd rfl (.inl rfl)) pgs_nil)))
      (pss_one (ps_if (pt_not (pt_val (pe_cal (ok_is_rider (K := K) T) (hr.mono (by decide)) (by rfl) (pa_cons (pv 3) (pa_cons (pv 1) pa_nil))))) (pss_one ps_never) pss_nil))))), fun b ds Q p => ?_⟩
  obtain ⟨l, n, rfl, hc, q⟩ := p
  simp only [startD, List.map_nil, driders]
  repeat walk_at "d"
  rw [List.length_map]
  refine iteT' (decide_eq_true (by have := hc.1; omega)) ?_
  repeat walk_at "d"
  refine iteF' (by simp; have := hc.2.1; omega) ?_
  repeat walk_at "d"
  refine dx_for (di_enumT ?_)
  repeat walk_at "d"
  refine ⟨l.map drider, rfl, fun i d => ∃ x y, d = ⟨[some (.tup (l.map drider)), some (.int n), x, y], own0⟩, ⟨_, _, rfl⟩, fun _ _ _ _ => trivial, ?_, ?_⟩
  · rintro i x d hx ⟨u, v, rfl⟩
    obtain ⟨y, hy, rfl⟩ := enumD_get hx
    obtain ⟨z, hz, rfl⟩ := map_get hy
    repeat walk_at "d"
    refine ⟨z, n, rfl, hc.2.2 z (List.mem_of_getElem? hz), ?_⟩
    repeat walk_at "d"
    exact ⟨_, _, rfl⟩
  · rintro d ⟨u, v, rfl⟩
    exact q
def pr_aboard_at : PrP := fun ds Q => ∃ (l : List (Int × Int × Int)) (t : Int), ds = [driders l, .int t] ∧ l.length ≤ 6 ∧ Q (.tup ((aboard l t).map Dt.int))
theorem len_aboard_at {ds Q} (p : pr_aboard_at ds Q) : ds.length = 2 := by obtain ⟨_, _, rfl, _⟩ := p; rfl
theorem sc_aboard_at : FnScope ["riders", "stretch", "place", "rider"] ["riders", "stretch"] (defScope (topS 39)) := ⟨rfl, rfl, rfl, by decide +kernel, rfl, by decide +kernel, by decide +kernel⟩
theorem ok_aboard_at (T : Txt K mg base) : Cal P w K mg base 1 "aboard_at" ["riders", "stretch"] (spP K pr_aboard_at) := by
  refine cal_pure (T.fn "aboard_at" 39 (by decide +kernel)) sc_aboard_at (fun _ _ _ _ _ _ us hl => match us, hl with | [_, _], _ => rfl) (fun ds Q p => len_aboard_at p) fun cdv A outer s H f E hr =>
    ⟨_, (pss_one (ps_ret (pe_ctK (r := DL.rTupleOf K) call_tuple_of' (by decide +kernel) (T.free "tuple" (by decide +kernel)) (by rfl) (pa_cons (pe_lc (own := [("place", 2), ("rider", 3)]) (g := (gTup K 2 (gCons (gName 2) (gCons (gName 3) gNil)))) rfl sc_aboard_at.nd (pi_enumTK (K := K) rfl (by rfl) (T.free "enumerate" (by decide +kernel)) (pa_cons (pv 0) pa_nil)) (blkOk_by (own := [("place", 2), ("rider", 3)]) (N := ["riders", "stretch", "place", "rider"]) (sc := (defScope (topS 39))) (by decide +kernel)) (fun _ _ _ _ _ => (pg_tupK (K := K) (n := 2) rfl rfl (pgs_cons (pg_name (i := 2) sc_aboard_at.nd rfl (Or.inl rfl)) (pgs_cons (pg_name (i := 3) sc_aboard_at.nd rfl (Or.inl rfl)) pgs_nil)))) (fun _ _ _ _ _ => (pts_one (pt_chain op_le op_lt (pe_ixK (K := K) rfl (pv 3) pe_int) (pv 1) (pe_ixK (K := K) rfl (pv 3) pe_int)))) (fun _ _ _ _ _ => (pv 2))) pa_nil)))), fun b ds Q p => ?_⟩
  obtain ⟨l, t, rfl, hl, q⟩ := p
  simp only [startD, List.map_nil, driders]
  repeat walk_at "d"
  refine de_lcP (by walk_at "w") (by walk_at "w") ?_
  refine di_enumT ?_
  repeat walk_at "d"
  refine ⟨l.map drider, rfl, by rw [enumD_len, List.length_map]; omega, fun _ _ => trivial, fun i => decide ((l.getD i (0, 0, 0)).1 ≤ t ∧ t < (l.getD i (0, 0, 0)).2.1), fun i => .int (i : Nat), ?_, ?_⟩
  · intro b i x hx
    obtain ⟨y, hy, rfl⟩ := enumD_get hx
    obtain ⟨z, hz, rfl⟩ := map_get hy
    have e : l.getD i (0, 0, 0) = z := by rw [List.getD_eq_getElem?_getD, hz]; rfl
    dsimp only [wipeD, List.map, List.set, drider]
    rw [e]
    repeat walk_at "d"
    by_cases h1 : z.1 ≤ t
    · refine iteT' (decide_eq_true h1) ?_
      repeat walk_at "d"
      refine ⟨by simp [h1], ?_⟩
      by_cases h2 : t < z.2.1
      · refine iteT' (decide_eq_true h2) ?_
        repeat walk_at "d"
        exact ⟨rfl, rfl⟩
      · exact iteF' (decide_eq_false h2) rfl
    · refine iteF' (decide_eq_false h1) ?_
      repeat walk_at "d"
      refine ⟨(decide_eq_false fun z => h1 z.1).symm, ?_⟩
      exact iteF' rfl rfl
  · have e : ((List.range (enumD (l.map drider)).length).filter fun i => decide ((l.getD i (0, 0, 0)).1 ≤ t ∧ t < (l.getD i (0, 0, 0)).2.1)).map (fun i => Dt.int ((i : Nat) : Int)) = (aboard l t).map Dt.int := by
      rw [enumD_len, List.length_map]
      unfold aboard
      rw [List.map_map]; rfl
    rw [e]
    repeat walk_at "d"
    exact q
/-- what the riders are sorted by, its first part -/
def rkey (l : List (Int × Int × Int)) (o : Str) (p : Int) : Int := if o = "sat" then (l.getD p.toNat (0, 0, 0)).1 else if o = "number" then 0 else -(l.getD p.toNat (0, 0, 0)).2.2
def pr_place_of : PrP := fun ds Q => ∃ (l : List (Int × Int × Int)) (o : Str) (n : Nat), ds = [driders l, .str o, .int n] ∧ n < l.length ∧ Q (.tup [.int (rkey l o n), .int n])
theorem len_place_of {ds Q} (p : pr_place_of ds Q) : ds.length = 3 := by obtain ⟨_, _, _, rfl, _⟩ := p; rfl
theorem sc_place_of : FnScope ["riders", "order", "place"] ["riders", "order", "place"] (defScope (topS 40)) := ⟨rfl, rfl, rfl, by decide +kernel, rfl, by decide +kernel, by decide +kernel⟩
theorem ok_place_of (T : Txt K mg base) : Cal P w K mg base 1 "place_of" ["riders", "order", "place"] (spP K pr_place_of) := by
  refine cal_pure (T.fn "place_of" 40 (by decide +kernel)) sc_place_of (fun _ _ _ _ _ _ us hl => match us, hl with | [_, _, _], _ => rfl) (fun ds Q p => len_place_of p) fun cdv A outer s H f E hr =>
    ⟨_, (pss_cons (ps_if (pt_cmpR op_eq (pv 1) pe_str (nomark _)) (pss_one (ps_ret (pe_tup (pa_cons (pe_ixK (K := K) rfl (pe_ixK (K := K) rfl (pv 0) (pv 2)) pe_int) (pa_cons (pv 2) pa_nil))))) pss_nil)
      (pss_one (ps_ret (pe_tup (pa_cons (pe_ifExp (pt_cmpR op_eq (pv 1) pe_str (nomark _)) pe_int (pe_un un_neg (pe_ixK (K := K) rfl (pe_ixK (K := K) rfl (pv 0) (pv 2)) pe_int))) (pa_cons (pv 2) pa_nil)))))), fun b ds Q p => ?_⟩
  obtain ⟨l, o, n, rfl, hn, q⟩ := p
  simp only [startD, List.map_nil, driders]
  have hx : atI (l.map drider) (n : Nat) = some (drider (l.getD n (0, 0, 0))) := by
    unfold atI
    rw [List.length_map]
    have : ixN l.length ((n : Nat) : Int) = some n := by unfold ixN; rw [if_pos (by omega), if_pos (by omega)]; simp
    rw [this]
    simp [List.getD_eq_getElem?_getD, List.getElem?_eq_getElem hn]
  have hk : rkey l o ((n : Nat) : Int) = if o = "sat" then (l.getD n (0, 0, 0)).1 else if o = "number" then 0 else -(l.getD n (0, 0, 0)).2.2 := by unfold rkey; simp
  rw [hk] at q
  repeat walk_at "d"
  by_cases h1 : o = "sat"
  · subst h1
    refine iteT' (by simp) ?_
    repeat walk_at "d"
    refine dr_xT hx ?_
    simp only [drider]
    repeat walk_at "d"
    exact q
  · refine iteF' (decide_eq_false h1) ?_
    repeat walk_at "d"
    rw [if_neg h1] at q
    by_cases h2 : o = "number"
    · subst h2
      refine iteT' (by simp) ?_
      repeat walk_at "d"
      exact q
    · rw [if_neg h2] at q
      refine iteF' (decide_eq_false h2) ?_
      repeat walk_at "d"
      refine dr_xT hx ?_
      simp only [drider]
      repeat walk_at "d"
      exact q
theorem aboard_len (l : List (Int × Int × Int)) (t : Int) : (aboard l t).length ≤ l.length := by
  unfold aboard
  rw [List.length_map]
  exact Nat.le_trans (List.length_filter_le _ _) (by simp)
theorem aboard_mem {l : List (Int × Int × Int)} {t p : Int} (h : p ∈ aboard l t) : 0 ≤ p ∧ p.toNat < l.length := by
  unfold aboard at h
  obtain ⟨i, hi, rfl⟩ := List.mem_map.mp h
  have := List.mem_range.mp (List.mem_filter.mp hi).1
  exact ⟨by omega, by omega⟩
/-- the places by rank -/
def rk (l : List (Int × Int × Int)) (o : Str) (t : Int) : List Int := (aboard l t).mergeSort (PySem.W.dataLe false (Lam3.keyD fun p => (rkey l o p, p)))
theorem rk_perm (l : List (Int × Int × Int)) (o : Str) (t : Int) : (rk l o t).Perm (aboard l t) := List.mergeSort_perm _ _
theorem rk_len (l : List (Int × Int × Int)) (o : Str) (t : Int) : (rk l o t).length = (aboard l t).length := (rk_perm l o t).length_eq
def pr_ranked_at : PrP := fun ds Q => ∃ (l : List (Int × Int × Int)) (o : Str) (t : Int), ds = [driders l, .str o, .int t] ∧ l.length ≤ 6 ∧ Q (.tupx (rk l o t))
theorem len_ranked_at {ds Q} (p : pr_ranked_at ds Q) : ds.length = 3 := by obtain ⟨_, _, _, rfl, _⟩ := p; rfl
theorem sc_ranked_at : FnScope ["riders", "order", "stretch"] ["riders", "order", "stretch"] (defScope (topS 41)) := ⟨rfl, rfl, rfl, by decide +kernel, rfl, by decide +kernel, by decide +kernel⟩
theorem ok_ranked_at (T : Txt K mg base) : Cal P w K mg base 5 "ranked_at" ["riders", "order", "stretch"] (spP K pr_ranked_at) := by
  obtain ⟨⟨fd, F⟩, hm⟩ := T.fn "ranked_at" 41 (by decide +kernel)
  refine ⟨_, fd, ?_, hm, F.kp, F.bindsN (fun _ _ _ _ _ _ us hl => match us, hl with | [_, _, _], _ => rfl)⟩
  obtain ⟨oc, od, dV, kV, doc, pm, an, cdv, ct, osl, rfl, lk, hcd, _, _⟩ := F.ex
  obtain ⟨c, rfl⟩ := He.codeIn_ref hcd
  have hc : He.codeOf K (PySem.Str.ofString "ranked_at", none) = c := He.codeOf_eq (p := (PySem.Str.ofString "ranked_at", none)) lk rfl
  have TB := T.rk
  rw [hc] at TB
  have eT : Tb K = [(He.tabOf K c, PySem.Str.ofString "ranked_at.<locals>.<lambda>")] := by unfold Tb; rw [hc]
  have eq1 : (PySem.Str.ofString "ranked_at" ++ ".<locals>." ++ "<lambda>" : Str) = PySem.Str.ofString "ranked_at.<locals>.<lambda>" := by decide +kernel
  refine L2.fn_of lk hcd sc_ranked_at (fun vs H Q E h => spP_len h fun ds QD p => len_ranked_at p) (fun A outer s H vs Q E hr h => ?_)
  have hunits := hu64 hr
  have body : PSs (cxOf CX0 P w K mg base ["riders", "order", "stretch"] "ranked_at" (defScope (topS 41)) (He.ga K "ranked_at") (.ref c) A outer s H E).nox (defBody (topS 41)) (tRet (tCB (Lam3.rTupFz K) (tCons (Lam3.tSortK K (PySem.Str.ofString "ranked_at.<locals>.<lambda>") (tCons (tCall (spP K pr_aboard_at) [] E0 (tCons (tVar 0) (tCons (tVar 2) tNil))) tNil) ["place", "riders", "order"] [0, 1] (tCall (spP K pr_place_of) [] E0 (tCons (tVar 1) (tCons (tVar 2) (tCons (tVar 0) tNil))))) tNil))) := by
    refine pss_one (ps_ret (pe_ctK (r := Lam3.rTupFz K) (Lam3.cr_tupFzK rfl) (by decide +kernel) (T.free "tuple" (by decide +kernel)) (by rfl) (pa_cons ?_ pa_nil)))
    rw [← eq1]
    refine Lam3.pe_sortK (y := "place") (fr := ["riders", "order"]) (k := 1) (c := c) (P := He.tabOf K c) (sc := defScope (topS 41)) (by rfl) (T.free "sorted" (by decide +kernel)) rfl (pa_cons (pe_cal (ok_aboard_at (K := K) T) (hr.mono (by decide)) (by rfl) (pa_cons (pv 0) (pa_cons (pv 2) pa_nil))) pa_nil) TB rfl ?_ (fun p hp _ => ?_) rfl rfl (by decide +kernel) rfl (NdefX.nscope_by (by decide +kernel)) (fun _ _ _ _ _ => rfl) hr (fun F f A outer s H hs hr => ?_) hunits
    · show (He.tabOf K c, (PySem.Str.ofString "ranked_at" ++ ".<locals>." ++ "<lambda>" : Str)) ∈ Tb K
      rw [eT, eq1]; exact List.mem_cons_self
    · have hp : p ∈ Tb K := hp
      rw [eT] at hp
      rw [List.mem_singleton.mp hp]
      exact eq1.symm
    · obtain ⟨x1, x2, x3, x4, sc, x6, x7⟩ := F
      have hs : sc = _ := hs
      subst hs
      exact pe_cal (ok_place_of (K := K) T) hr (by rfl) (pa_cons (pv 1) (pa_cons (pv 2) (pa_cons (pv 0) pa_nil)))
  refine ⟨_, body.nox, run_pure h fun b ds QD p => ?_⟩
  obtain ⟨l, o, t, rfl, hl, q⟩ := p
  simp only [startD, List.map_nil]
  repeat walk_at "d"
  refine Lam3.de_sortK rfl ?_
  repeat walk_at "d"
  refine ⟨l, t, rfl, hl, ?_⟩
  repeat walk_at "d"
  refine ⟨aboard l t, fun p => (rkey l o p, p), driders l, .str o, rfl, by have := aboard_len l t; omega, rfl, rfl, fun b' n hn => ?_, fun p hp => ?_⟩
  · obtain ⟨h0, h1⟩ := aboard_mem hn
    have en : n = ((n.toNat : Nat) : Int) := by omega
    rw [en]
    repeat walk_at "d"
    refine ⟨l, o, n.toNat, rfl, h1, ?_⟩
    exact ⟨rfl, rfl⟩
  · repeat walk_at "d"
    refine Lam3.dc_tupFz Own.put_same ?_
    exact q
def pr_is_crowded : PrP := fun ds Q => ∃ (l : List (Int × Int × Int)) (n : Nat), ds = [.int n, driders l] ∧ n ≤ 12 ∧ l.length ≤ 6 ∧ (∀ t : Nat, t < n → (aboard l t).length ≤ 4) ∧ Q (.bl false)
theorem len_is_crowded {ds Q} (p : pr_is_crowded ds Q) : ds.length = 2 := by obtain ⟨_, _, rfl, _⟩ := p; rfl
theorem sc_is_crowded : FnScope ["stretches", "riders", "stretch"] ["stretches", "riders"] (defScope (topS 42)) := ⟨rfl, rfl, rfl, by decide +kernel, rfl, by decide +kernel, by decide +kernel⟩
theorem ok_is_crowded (T : Txt K mg base) : Cal P w K mg base 2 "is_crowded" ["stretches", "riders"] (spP K pr_is_crowded) := by
  refine cal_pure (T.fn "is_crowded" 42 (by decide +kernel)) sc_is_crowded (fun _ _ _ _ _ _ us hl => match us, hl with | [_, _], _ => rfl) (fun ds Q p => len_is_crowded p) fun cdv A outer s H f E hr =>
    ⟨_, (pss_one (ps_ret (pe_cbK (r := rAny K) (cr_any rfl) (by decide +kernel) (T.free "any" (by decide +kernel)) (by rfl) (pa_cons (pe_lc (own := [("stretch", 2)]) (g := (gName 2)) (tt := tYes) rfl sc_is_crowded.nd (pi_range1 (by rfl) (T.free "range" (by decide +kernel)) (pa_cons (pv 0) pa_nil)) (blkOk_by (own := [("stretch", 2)]) (N := ["stretches", "riders", "stretch"]) (sc := (defScope (topS 42))) (by decide +kernel)) (fun _ _ _ _ _ => (pg_name (i := 2) sc_is_crowded.nd rfl (Or.inl rfl))) (fun _ _ _ _ _ => pts_nil) (fun _ _ _ _ _ => (pe_cmpR op_gt (pe_cbK (r := DL.rLen K) call_len' boot_len (T.free "len" (by decide +kernel)) (by rfl) (pa_cons (pe_cal (ok_aboard_at (K := K) T) (hr.mono (by decide)) (by rfl) (pa_cons (pv 1) (pa_cons (pv 2) pa_nil))) pa_nil)) (pe_gint (T.gint "MOST_ABOARD" 4 (by decide +kernel)) (by rfl)) (nomark _)))) pa_nil)))), fun b ds Q p => ?_⟩
  obtain ⟨l, n, rfl, hn, hl, hc, q⟩ := p
  simp only [startD, List.map_nil, driders]
  repeat walk_at "d"
  refine de_lcM (by walk_at "w") (by walk_at "w") ?_
  refine di_rng1 ?_
  repeat walk_at "d"
  refine ⟨(n : Int), rfl, by omega, by omega, by rw [rangeD_len]; omega, fun _ _ => trivial, fun i => .bl false, ?_, ?_⟩
  · intro b i x hx
    obtain ⟨rfl, hi⟩ := rangeD_get hx
    dsimp only [wipeD, List.map, List.set]
    repeat walk_at "d"
    refine ⟨l, _, rfl, hl, ?_⟩
    repeat walk_at "d"
    refine ⟨rfl, ?_⟩
    have h := hc i (by omega)
    rw [List.length_map, decide_eq_false (by simp; omega)]
  · rw [rangeD_len, show (List.range ((n : Int).toNat)).map (fun _ => Dt.bl false) = ((List.range n).map fun _ => false).map Dt.bl by simp]
    repeat walk_at "d"
    refine dc_any ?_
    have e : ((List.range n).map fun _ => false).any id = false := by simp
    rw [e]
    exact q
def rideF (r : Rid) : List (Str × Dt) := [("costs", dcosts r.costs), ("riders", driders r.riders), ("told", .tup [dcosts r.costs, driders r.riders])]
def pr_Ride___init__ (K : PySem.W.Frag) : Pr := fun ds ob QD => ∃ (a : Addr) (r : Rid), ds = [.ptr a, dcosts r.costs, driders r.riders] ∧ RidOk r ∧ ob a = some (.ins (He.ga K "Ride") []) ∧ QD .non (ob.put a (.ins (He.ga K "Ride") (rideF r)))
theorem len_Ride___init__ {ds ob Q} (p : pr_Ride___init__ K ds ob Q) : ds.length = 3 := by obtain ⟨_, _, rfl, _⟩ := p; rfl
theorem sc_Ride___init__ : FnScope ["self", "costs", "riders"] ["self", "costs", "riders"] (defScope (inClass (topS 43) 0)) := ⟨rfl, rfl, rfl, by decide +kernel, rfl, by decide +kernel, by decide +kernel⟩
theorem ok_Ride___init__ (T : Txt K mg base) : CalM P w K mg base 5 "Ride" "__init__" ["self", "costs", "riders"] (spD K (pr_Ride___init__ K)) := by
  refine cal_mkM T (by decide +kernel) (T.me "Ride" "__init__" "Ride.__init__" 43 0 (by decide +kernel)) sc_Ride___init__ (fun _ _ _ _ _ _ us hl => match us, hl with | [_, _, _], _ => rfl) (fun ds ob Q p => len_Ride___init__ p) fun cdv A outer s H f E hr =>
    ⟨_, (pss_cons (ps_expr (pe_cal (ok_check_costs (K := K) T) (hr.mono (by decide)) (by rfl) (pa_cons (pv 1) pa_nil)))
      (pss_cons (ps_expr (pe_cal (ok_check_riders (K := K) T) (hr.mono (by decide)) (by rfl) (pa_cons (pv 2) (pa_cons (pe_cbK (r := DL.rLen K) call_len' boot_len (T.free "len" (by decide +kernel)) (by rfl) (pa_cons (pv 1) pa_nil)) pa_nil))))
      (pss_cons (ps_if (pt_val (pe_cal (ok_is_crowded (K := K) T) (hr.mono (by decide)) (by rfl) (pa_cons (pe_cbK (r := DL.rLen K) call_len' boot_len (T.free "len" (by decide +kernel)) (by rfl) (pa_cons (pv 1) pa_nil)) (pa_cons (pv 2) pa_nil)))) (pss_one ps_never) pss_nil)
      (pss_cons (ps_fldK (K := K) rfl (pv 0) (pv 1))
      (pss_cons (ps_fldK (K := K) rfl (pv 0) (pv 2))
      (pss_one (ps_fldK (K := K) rfl (pv 0) (pe_tup (pa_cons (pv 1) (pa_cons (pv 2) pa_nil)))))))))), fun b ds ob Q p => ?_⟩
  obtain ⟨a, r, rfl, hr1, ho, q⟩ := p
  obtain ⟨hc, hrd, hcr⟩ := hr1
  simp only [startD, List.map_nil]
  repeat walk_at "d"
  refine ⟨r.costs, rfl, hc, ?_⟩
  unfold dcosts driders at *
  repeat walk_at "d"
  rw [List.length_map]
  refine ⟨r.riders, _, rfl, hrd, ?_⟩
  repeat walk_at "d"
  rw [List.length_map]
  refine ⟨r.riders, _, rfl, hc.2.1, hrd.2.1, hcr, ?_⟩
  repeat walk_at "d"
  refine dx_fld (T.cls "Ride" (by decide +kernel)).1 (T.noat "Ride" "costs" (by decide +kernel)) ?_
  repeat walk_at "d"
  refine ⟨a, _, rfl, ho, by decide, ?_⟩
  repeat walk_at "d"
  refine dx_fld (T.cls "Ride" (by decide +kernel)).1 (T.noat "Ride" "riders" (by decide +kernel)) ?_
  repeat walk_at "d"
  refine ⟨a, _, rfl, Own.put_same, putD_lt (n := 999) (by decide), ?_⟩
  repeat walk_at "d"
  refine dx_fld (T.cls "Ride" (by decide +kernel)).1 (T.noat "Ride" "told" (by decide +kernel)) ?_
  repeat walk_at "d"
  refine ⟨a, _, rfl, Own.put_same, putD_lt (n := 999) (putD_lt (n := 998) (by decide)), ?_⟩
  refine endD_all ?_
  simp only [Own.put_put]
  exact q
def pr_Ride___len__ (K : PySem.W.Frag) : PrP := fun ds Q => ∃ r : Rid, ds = [dride K r] ∧ Q (.int r.riders.length)
theorem len_Ride___len__ {ds ob Q} (p : pure1 (pr_Ride___len__ K) ds ob Q) : ds.length = 1 := by obtain ⟨_, _, rfl, _⟩ := p; rfl
theorem sc_Ride___len__ : FnScope ["self"] ["self"] (defScope (inClass (topS 43) 3)) := ⟨rfl, rfl, rfl, by decide +kernel, rfl, by decide +kernel, by decide +kernel⟩
theorem ok_Ride___len__ (T : Txt K mg base) : CalM P w K mg base 1 "Ride" "__len__" ["self"] (spD K (pure1 (pr_Ride___len__ K))) := by
  refine cal_mkM T (by decide +kernel) (T.me "Ride" "__len__" "Ride.__len__" 43 3 (by decide +kernel)) sc_Ride___len__ (fun _ _ _ _ _ _ us hl => match us, hl with | [_], _ => rfl) (fun ds ob Q p => len_Ride___len__ p) fun cdv A outer s H f E hr =>
    ⟨_, (pss_one (ps_ret (pe_cbK (r := DL.rLen K) call_len' boot_len (T.free "len" (by decide +kernel)) (by rfl) (pa_cons (pe_fldK (K := K) rfl (pv 0)) pa_nil)))), fun b ds ob Q p => ?_⟩
  obtain ⟨rfl, r, rfl, q⟩ := p
  simp only [startD, List.map_nil]
  repeat walk_at "d"
  refine fld_riders T ?_
  repeat walk_at "d"
  refine ⟨r, rfl, ?_⟩
  unfold driders
  repeat walk_at "d"
  rw [List.length_map]
  exact endD_all q
def pr_check_ride (K : PySem.W.Frag) : PrP := fun ds Q => ∃ r : Rid, ds = [dride K r] ∧ Q .non
theorem len_check_ride {ds Q} (p : pr_check_ride K ds Q) : ds.length = 1 := by obtain ⟨_, rfl, _⟩ := p; rfl
theorem sc_check_ride : FnScope ["value"] ["value"] (defScope (topS 45)) := ⟨rfl, rfl, rfl, by decide +kernel, rfl, by decide +kernel, by decide +kernel⟩
theorem ok_check_ride (T : Txt K mg base) : Cal P w K mg base 1 "check_ride" ["value"] (spP K (pr_check_ride K)) := by
  refine cal_pure (T.fn "check_ride" 45 (by decide +kernel)) sc_check_ride (fun _ _ _ _ _ _ us hl => match us, hl with | [_], _ => rfl) (fun ds Q p => len_check_ride p) fun cdv A outer s H f E hr =>
    ⟨_, (pss_one (ps_if (pt_not (pt_val (pe_cbK (r := rIsi K) call_isi (by decide +kernel) (T.free "isinstance" (by decide +kernel)) (by rfl) (pa_cons (pv 0) (pa_cons (pe_gref (T.cls "Ride" (by decide +kernel)).2.1 (by rfl)) pa_nil))))) (pss_one ps_never) pss_nil)), fun b ds Q p => ?_⟩
  obtain ⟨r, rfl, q⟩ := p
  simp only [startD, List.map_nil, dride]
  repeat walk_at "d"
  refine de_gptr ?_
  repeat walk_at "d"
  refine isi_ride T ?_
  repeat walk_at "d"
  exact q
def pr_check_rider (K : PySem.W.Frag) : PrP := fun ds Q => ∃ (r : Rid) (i : Int), ds = [.int i, dride K r] ∧ 0 ≤ i ∧ i < r.riders.length ∧ Q .non
theorem len_check_rider {ds Q} (p : pr_check_rider K ds Q) : ds.length = 2 := by obtain ⟨_, _, rfl, _⟩ := p; rfl
theorem sc_check_rider : FnScope ["value", "ride"] ["value", "ride"] (defScope (topS 46)) := ⟨rfl, rfl, rfl, by decide +kernel, rfl, by decide +kernel, by decide +kernel⟩
theorem ok_check_rider (T : Txt K mg base) : Cal P w K mg base 3 "check_rider" ["value", "ride"] (spP K (pr_check_rider K)) := by
  refine cal_pure (T.fn "check_rider" 46 (by decide +kernel)) sc_check_rider (fun _ _ _ _ _ _ us hl => match us, hl with | [_, _], _ => rfl) (fun ds Q p => len_check_rider p) fun cdv A outer s H f E hr =>
    ⟨_, (pss_one (ps_if (pt_not (pt_val (pe_cal (ok_is_between (K := K) T) (hr.mono (by decide)) (by rfl) (pa_cons (pv 0) (pa_cons pe_int (pa_cons (pe_op op_sub (pe_cbK (r := DL.rLen K) call_len' boot_len (T.free "len" (by decide +kernel)) (by rfl) (pa_cons (pe_fldK (K := K) rfl (pv 1)) pa_nil)) pe_int) pa_nil)))))) (pss_one ps_never) pss_nil)), fun b ds Q p => ?_⟩
  obtain ⟨r, i, rfl, h0, h1, q⟩ := p
  simp only [startD, List.map_nil]
  repeat walk_at "d"
  refine fld_riders T ?_
  repeat walk_at "d"
  refine ⟨r, rfl, ?_⟩
  unfold driders
  repeat walk_at "d"
  refine btw (by rw [List.length_map]; omega) ?_
  repeat walk_at "d"
  exact q
end
end Cab
/-! W3 -/
set_option Elab.async false
set_option linter.all false
set_option maxRecDepth 100000
set_option maxHeartbeats 4000000
namespace Cab
open PySem PySem.Spec PyProof.Rows L2 DL
local macro_rules | `(tactic| walk_at "d") => `(tactic| first
  | with_reducible refine dx_seq ?_ | with_reducible refine dx_ret ?_ | with_reducible refine dx_asg ?_ | ((with_reducible refine dg_name ?_); dsimp only [List.set])
  | with_reducible refine de_op ?_ | ((with_reducible refine' de_var ?h1 ?_); (case h1 => exact rfl)) | with_reducible refine de_int ?_ | with_reducible refine da_cons ?_ | with_reducible refine da_nil ?_
  | ((with_reducible refine' dr_xT ?h1 ?_); (case h1 => exact rfl)) | ((with_reducible refine' dr_xL ?h1 ?_); (case h1 => exact rfl)) | with_reducible refine dr_I0 ?_ | with_reducible refine dr_I0b ?_ | with_reducible refine de_callP ?_ | with_reducible refine de_callA ?_
  | with_reducible refine de_cb ?_ | with_reducible refine de_un ?_ | with_reducible refine du_I ?_ | with_reducible refine de_bl ?_ | with_reducible refine de_non ?_ | with_reducible refine de_str ?_ | with_reducible refine de_ty ?_
  | with_reducible refine dr_eqI ?_ | with_reducible refine dr_neI ?_ | with_reducible refine dr_eqS ?_ | with_reducible refine dr_isN ?_ | with_reducible refine dr_notN ?_
  | with_reducible refine dt_and ?_ | with_reducible refine dt_or ?_ | with_reducible refine dt_not ?_ | with_reducible refine de_if ?_ | with_reducible refine de_andV ?_ | with_reducible refine de_orV ?_ | with_reducible refine de_notV ?_
  | ((with_reducible refine dt_test ?_)) | ((with_reducible refine dt_B ?_))
  | with_reducible refine dx_par' ?_ | with_reducible refine dx_par3' ?_ | with_reducible refine ex_bl ?_ | with_reducible refine ex_int ?_ | with_reducible refine isi_int ?_ | with_reducible refine isi_intB ?_ | with_reducible refine isi_tup ?_ | with_reducible refine isi_tupS ?_ | with_reducible refine isi_str ?_ | with_reducible refine de_chain ?_ | with_reducible refine dt_chain ?_ | with_reducible refine iteT ?_ | with_reducible refine iteF ?_ | with_reducible refine dx_if ?_ | with_reducible refine dx_drop ?_ | with_reducible refine dx_cont ?_ | with_reducible refine dx_next ?_
  | with_reducible refine dc_abs ?_ | with_reducible refine dc_lenT ?_ | with_reducible refine dc_lenL ?_ | with_reducible refine dc_int ?_ | with_reducible refine dc_max2 ?_ | with_reducible refine dc_min2 ?_ | with_reducible refine dc_tupL ?_
  | with_reducible refine de_fldF ?_ ?_ ?_ | with_reducible refine de_tup ?_ | ((with_reducible refine len_ok ?h1 ?_); (case h1 => exact rfl))
  | ((with_reducible refine iteT' ?h1 ?_); (case h1 => rfl)) | ((with_reducible refine iteF' ?h1 ?_); (case h1 => rfl))
  | with_reducible refine ex_int2 ?_ | ((with_reducible refine' dg_tup ?h1 ?_); (case h1 => rfl)) | with_reducible refine dgs_cons ?_ | with_reducible refine dgs_nil ?_ | with_reducible refine dc_lenX ?_ | with_reducible refine dr_inX ?_
  | dsimp only [List.set])
/-- a comprehension's targets -/
local macro_rules | `(tactic| walk_at "w") => `(tactic| repeat first
  | exact wp_name (by simp) | exact mo_name | exact wps_nil | exact mos_nil
  | refine wp_tup ?_ | refine wps_cons ?_ ?_ ?_ ?_ | refine mo_tup ?_ | refine mos_cons ?_ ?_)
/-- ends that are told by a value: a bool, a pair -/
local macro_rules | `(tactic| walk_at "e") => `(tactic| first
  | walk_at "d"
  | ((with_reducible refine Exists.intro _ (And.intro rfl ?_))))
section
variable {P : Program} {w : World} {K : PySem.W.Frag} {mg : Str → Option Value} {base : Heap}
/-! ### forms -/
theorem smallW {j : Int} (h0 : 0 < j) (h : j.natAbs < 2 ^ 60) {i : Int} : CDivW i j := wide_div h0 h (by decide) (by decide)
def plN (n : Nat) : List (Int × Int) := (List.range n).flatMap fun c => (List.range (c + 1)).map fun r => (((c : Nat) : Int) + 1, ((r : Nat) : Int) + 1)
def plc : List (Int × Int) := plN 4
theorem plN_succ (n : Nat) : plN (n + 1) = plN n ++ (List.range (n + 1)).map fun r => (((n : Nat) : Int) + 1, ((r : Nat) : Int) + 1) := by
  unfold plN
  rw [List.range_succ, List.flatMap_append]
  simp only [List.flatMap_cons, List.flatMap_nil, List.append_nil, List.range_succ]
theorem plN_len4 {n : Nat} (h : n ≤ 4) : (plN n).length ≤ 10 := by
  have : n = 0 ∨ n = 1 ∨ n = 2 ∨ n = 3 ∨ n = 4 := by omega
  rcases this with h | h | h | h | h <;> (subst h; decide)
def pr_places : PrP := fun ds Q => ds = [] ∧ Q (.lst (plc.map DL.pairD))
theorem len_places {ds Q} (p : pr_places ds Q) : ds.length = 0 := by obtain ⟨rfl, _⟩ := p; rfl
theorem sc_places : FnScope ["count", "rank"] [] (defScope (topS 49)) := ⟨rfl, rfl, rfl, by decide +kernel, rfl, by decide +kernel, by decide +kernel⟩
theorem ok_places (T : Txt K mg base) : Cal P w K mg base 1 "places" [] (spP K pr_places) := by
  refine cal_pure (T.fn "places" 49 (by decide +kernel)) sc_places (fun _ _ _ _ _ _ us hl => match us, hl with | [], _ => rfl) (fun ds Q p => len_places p) fun cdv A outer s H f E hr =>
    ⟨_, (pss_one (ps_ret (pe_lc2 (own := [("count", 0), ("rank", 1)]) (vs1 := [1]) (g := (gName 0)) (g1 := (gName 1)) (tt := tYes) (tt1 := tYes) rfl sc_places.nd (pi_range2 (by rfl) (T.free "range" (by decide +kernel)) (pa_cons pe_int (pa_cons (pe_op op_add (pe_gint (T.gint "MOST_ABOARD" 4 (by decide +kernel)) (by rfl)) pe_int) pa_nil))) (blkOk_by (own := [("count", 0), ("rank", 1)]) (N := ["count", "rank"]) (sc := (defScope (topS 49))) (by decide +kernel)) (by decide) (fun _ _ _ _ _ => (pg_name (i := 0) sc_places.nd rfl (Or.inl rfl))) (fun _ _ _ _ _ => pts_nil) (fun _ _ _ _ _ => (pi_range2 (by rfl) (T.free "range" (by decide +kernel)) (pa_cons pe_int (pa_cons (pe_op op_add (pv 0) pe_int) pa_nil)))) (fun _ _ _ _ _ => (pg_name (i := 1) sc_places.nd rfl (Or.inl rfl))) (fun _ _ _ _ _ => pts_nil) (fun _ _ _ _ _ => (pe_tup (pa_cons (pv 0) (pa_cons (pv 1) pa_nil))))))), fun b ds Q p => ?_⟩
  obtain ⟨rfl, q⟩ := p
  simp only [startD, List.map_nil]
  repeat walk_at "d"
  refine de_frz ?_
  refine de_lc2O (by walk_at "w") (by walk_at "w") (by walk_at "w") (by walk_at "w") ?_
  refine di_rng2 ?_
  repeat walk_at "d"
  refine ⟨1, 5, rfl, by omega, fun _ => trivial, fun i acc => acc = (plN i).map DL.pairD ∧ i ≤ 4, ⟨rfl, by omega⟩, ?_, ?_⟩
  · rintro b i x acc hx ⟨rfl, hi⟩
    obtain ⟨rfl, hi'⟩ := rangeD_get hx
    have hi' : i < 4 := hi'
    dsimp only [wipeD, List.map, List.set]
    repeat walk_at "d"
    refine ⟨rfl, ?_⟩
    refine di_rng2 ?_
    repeat walk_at "d"
    refine ⟨1, 1 + (i : Int) + 1, rfl, by omega, rfl, fun _ => trivial, fun j acc => acc = (plN i).map DL.pairD ++ (List.range j).map (fun r => DL.pairD (((i : Nat) : Int) + 1, ((r : Nat) : Int) + 1)) ∧ j ≤ i + 1, ⟨by simp, by omega⟩, ?_, ?_⟩
    · rintro b j y acc hy ⟨rfl, hj⟩
      obtain ⟨rfl, hj'⟩ := rangeD_get hy
      have hj' : j < i + 1 := by have : (1 + (i : Int) + 1 - 1).toNat = i + 1 := by omega
                                 omega
      dsimp only [wipeD, List.map, List.set]
      repeat walk_at "d"
      refine ⟨rfl, ?_, ?_, hj'⟩
      · have h1 := plN_len4 (n := i) (by omega)
        simp only [List.length_append, List.length_map, List.length_range]
        omega
      · rw [List.range_succ, List.map_append, List.append_assoc]
        simp only [List.map_cons, List.map_nil, DL.pairD]
        rw [Int.add_comm 1 (i : Int), Int.add_comm 1 (j : Int)]
    · rintro acc ⟨rfl, _⟩
      refine ⟨?_, by omega⟩
      rw [rangeD_len, plN_succ, List.map_append, List.map_map]
      have : (1 + (i : Int) + 1 - 1).toNat = i + 1 := by omega
      rw [this]; rfl
  · rintro acc ⟨rfl, _⟩ p hp
    refine ⟨p, _, rfl, Own.put_same, ?_⟩
    exact q
def pir (c r : Int) : Int := c * (c - 1) / 2 + r - 1
def pr_place_in_row : PrP := fun ds Q => ∃ c r : Int, ds = [.int c, .int r] ∧ 0 ≤ c ∧ c ≤ 1000 ∧ Q (.int (pir c r))
theorem len_place_in_row {ds Q} (p : pr_place_in_row ds Q) : ds.length = 2 := by obtain ⟨_, _, rfl, _⟩ := p; rfl
theorem sc_place_in_row : FnScope ["count", "rank"] ["count", "rank"] (defScope (topS 50)) := ⟨rfl, rfl, rfl, by decide +kernel, rfl, by decide +kernel, by decide +kernel⟩
theorem ok_place_in_row (T : Txt K mg base) : Cal P w K mg base 1 "place_in_row" ["count", "rank"] (spP K pr_place_in_row) := by
  refine cal_pure (T.fn "place_in_row" 50 (by decide +kernel)) sc_place_in_row (fun _ _ _ _ _ _ us hl => match us, hl with | [_, _], _ => rfl) (fun ds Q p => len_place_in_row p) fun cdv A outer s H f E hr =>
    ⟨_, (pss_one (ps_ret (pe_op op_sub (pe_op op_add (pe_op op_fdivW (pe_op op_mulW (pv 0) (pe_op op_sub (pv 0) pe_int)) pe_int) (pv 1)) pe_int))), fun b ds Q p => ?_⟩
  obtain ⟨c, r, rfl, h0, h1, q⟩ := p
  simp only [startD, List.map_nil]
  repeat walk_at "d"
  refine dr_I (wmul (a := 20) (c := 20) (by omega) (by omega)) ?_
  repeat walk_at "d"
  refine dr_I (smallW (by decide) (by decide)) ?_
  repeat walk_at "d"
  exact q
structure Frm where
  num : Int
  fac : List Int
def dfrm (f : Frm) : Dt := .tup [.int f.num, .tup (f.fac.map Dt.int)]
def addAt (l : List Int) (p : Int × Int) : List Int := l.set p.1.toNat (l.getD p.1.toNat 0 + p.2)
def facs (ps : List (Int × Int)) : List Int := ps.foldl addAt (List.replicate 10 0)
theorem addAt_len (l : List Int) (p : Int × Int) : (addAt l p).length = l.length := by unfold addAt; rw [List.length_set]
theorem foldl_addAt_len (ps : List (Int × Int)) : ∀ l : List Int, (ps.foldl addAt l).length = l.length := by
  induction ps with
  | nil => intro l; rfl
  | cons p ps ih => intro l; rw [List.foldl_cons, ih, addAt_len]
theorem facs_len (ps : List (Int × Int)) : (facs ps).length = 10 := by unfold facs; rw [foldl_addAt_len]; simp
def pr_form_of : PrP := fun ds Q => ∃ (n : Int) (ps : List (Int × Int)), ds = [.int n, .lst (ps.map DL.pairD)] ∧ (∀ p ∈ ps, 0 ≤ p.1 ∧ p.1 < 10) ∧ Q (dfrm ⟨n, facs ps⟩)
theorem len_form_of {ds Q} (p : pr_form_of ds Q) : ds.length = 2 := by obtain ⟨_, _, rfl, _⟩ := p; rfl
theorem sc_form_of : FnScope ["number", "parts", "factors", "place", "factor"] ["number", "parts"] (defScope (topS 51)) := ⟨rfl, rfl, rfl, by decide +kernel, rfl, by decide +kernel, by decide +kernel⟩
theorem ok_form_of (T : Txt K mg base) : Cal P w K mg base 2 "form_of" ["number", "parts"] (spP K pr_form_of) := by
  refine cal_pure (T.fn "form_of" 51 (by decide +kernel)) sc_form_of (fun _ _ _ _ _ _ us hl => match us, hl with | [_, _], _ => rfl) (fun ds Q p => len_form_of p) fun cdv A outer s H f E hr =>
    ⟨_, (pss_cons (ps_set (i := 2) sc_form_of.nd rfl (.inl rfl) (pe_op op_rep (pe_lst (pa_cons pe_int pa_nil)) (pe_cbK (r := DL.rLen K) call_len' boot_len (T.free "len" (by decide +kernel)) (by rfl) (pa_cons (pe_cal0 (ok_places (K := K) T) (hr.mono (by decide)) (by rfl)) pa_nil))))
      (pss_cons (ps_for PassesOwn.never rfl (pi_listK (K := K) rfl (pv 1)) (pg_tupK (K := K) (n := 2) rfl rfl (pgs_cons (pg_name (i := 3) sc_form_of.nd rfl (.inl rfl)) (pgs_cons (pg_name (i := 4) sc_form_of.nd rfl (.inl rfl)) pgs_nil)))
      (pss_one (ps_augS (pv 2) (pv 3) (get_list (K := K) rfl) (pv 4) ip_add set_list)))
      (pss_one (ps_ret (pe_tup (pa_cons (pv 0) (pa_cons (pe_ctK (r := DL.rTupleOf K) call_tuple_of' (by decide +kernel) (T.free "tuple" (by decide +kernel)) (by rfl) (pa_cons (pv 2) pa_nil)) pa_nil))))))), fun b ds Q p => ?_⟩
  obtain ⟨n, ps, rfl, hp, q⟩ := p
  simp only [startD, List.map_nil]
  repeat walk_at "d"
  refine de_lstO ?_
  repeat walk_at "d"
  intro a ha
  repeat walk_at "d"
  refine ⟨rfl, ?_⟩
  repeat walk_at "d"
  refine dr_rep Own.put_same (by decide) (by decide) (by decide) fun c hc => ?_
  repeat walk_at "d"
  have hl : (List.replicate ((List.map DL.pairD plc).length : Int).toNat [Dt.int 0]).flatten = (List.replicate 10 (0 : Int)).map Dt.int := by rfl
  rw [hl]
  refine dx_for (di_list ?_)
  repeat walk_at "d"
  refine ⟨ps.map DL.pairD, rfl, fun i d => ∃ x y o, d = ⟨[some (.int n), some (.lst (ps.map DL.pairD)), some (.ptr c), x, y], o⟩ ∧ o c = some (.lst (((ps.take i).foldl addAt (List.replicate 10 0)).map Dt.int)), ⟨_, _, _, rfl, Own.put_same⟩, fun _ _ _ _ => trivial, ?_, ?_⟩
  · rintro i x d hx ⟨u, v, o, rfl, ho⟩
    obtain ⟨z, hz, rfl⟩ := map_get hx
    obtain ⟨h0, h1⟩ := hp z (List.mem_of_getElem? hz)
    dsimp only [DL.pairD]
    repeat walk_at "d"
    have hlen : ((ps.take i).foldl addAt (List.replicate 10 0)).length = 10 := by rw [foldl_addAt_len]; simp
    refine dx_augS ?_
    repeat walk_at "d"
    refine ⟨c, rfl, ?_⟩
    repeat walk_at "d"
    refine ⟨z.1.toNat, ((ps.take i).foldl addAt (List.replicate 10 0)).getD z.1.toNat 0, _, by rw [Int.toNat_of_nonneg h0], ho, ?_, ?_⟩
    · rw [List.getElem?_map, List.getD_eq_getElem?_getD, List.getElem?_eq_getElem (by omega)]; rfl
    repeat walk_at "d"
    refine ⟨z.2, _, rfl, ho, by rw [List.length_map]; omega, _, _, _, rfl, ?_⟩
    have hs : ps.take (i + 1) = ps.take i ++ [z] := by rw [List.take_add_one, hz]; rfl
    rw [hs, List.foldl_append]
    simp only [List.foldl_cons, List.foldl_nil]
    rw [Own.put_same]
    unfold addAt
    rw [List.map_set]
  · rintro d ⟨u, v, o, rfl, ho⟩
    rw [List.length_map, List.take_length] at ho
    repeat walk_at "d"
    refine dc_tupO ho ?_
    repeat walk_at "d"
    exact q
end
end Cab
/-! W3b -/
set_option Elab.async false
set_option linter.all false
set_option maxRecDepth 100000
set_option maxHeartbeats 4000000
namespace Cab
open PySem PySem.Spec PyProof.Rows L2 DL
local macro_rules | `(tactic| walk_at "d") => `(tactic| first
  | with_reducible refine dx_seq ?_ | with_reducible refine dx_ret ?_ | with_reducible refine dx_asg ?_ | ((with_reducible refine dg_name ?_); dsimp only [List.set])
  | with_reducible refine de_op ?_ | ((with_reducible refine' de_var ?h1 ?_); (case h1 => exact rfl)) | with_reducible refine de_int ?_ | with_reducible refine da_cons ?_ | with_reducible refine da_nil ?_
  | ((with_reducible refine' dr_xT ?h1 ?_); (case h1 => exact rfl)) | ((with_reducible refine' dr_xL ?h1 ?_); (case h1 => exact rfl)) | with_reducible refine dr_I0 ?_ | with_reducible refine dr_I0b ?_ | with_reducible refine de_callP ?_ | with_reducible refine de_callA ?_
  | with_reducible refine de_cb ?_ | with_reducible refine de_un ?_ | with_reducible refine du_I ?_ | with_reducible refine de_bl ?_ | with_reducible refine de_non ?_ | with_reducible refine de_str ?_ | with_reducible refine de_ty ?_
  | with_reducible refine dr_eqI ?_ | with_reducible refine dr_neI ?_ | with_reducible refine dr_eqS ?_ | with_reducible refine dr_isN ?_ | with_reducible refine dr_notN ?_
  | with_reducible refine dt_and ?_ | with_reducible refine dt_or ?_ | with_reducible refine dt_not ?_ | with_reducible refine de_if ?_ | with_reducible refine de_andV ?_ | with_reducible refine de_orV ?_ | with_reducible refine de_notV ?_
  | ((with_reducible refine dt_test ?_)) | ((with_reducible refine dt_B ?_))
  | with_reducible refine dx_par' ?_ | with_reducible refine dx_par3' ?_ | with_reducible refine ex_bl ?_ | with_reducible refine ex_int ?_ | with_reducible refine isi_int ?_ | with_reducible refine isi_intB ?_ | with_reducible refine isi_tup ?_ | with_reducible refine isi_tupS ?_ | with_reducible refine isi_str ?_ | with_reducible refine de_chain ?_ | with_reducible refine dt_chain ?_ | with_reducible refine iteT ?_ | with_reducible refine iteF ?_ | with_reducible refine dx_if ?_ | with_reducible refine dx_drop ?_ | with_reducible refine dx_cont ?_ | with_reducible refine dx_next ?_
  | with_reducible refine dc_abs ?_ | with_reducible refine dc_lenT ?_ | with_reducible refine dc_lenL ?_ | with_reducible refine dc_int ?_ | with_reducible refine dc_max2 ?_ | with_reducible refine dc_min2 ?_ | with_reducible refine dc_tupL ?_
  | with_reducible refine de_fldF ?_ ?_ ?_ | with_reducible refine de_tup ?_ | ((with_reducible refine len_ok ?h1 ?_); (case h1 => exact rfl))
  | ((with_reducible refine iteT' ?h1 ?_); (case h1 => rfl)) | ((with_reducible refine iteF' ?h1 ?_); (case h1 => rfl))
  | with_reducible refine ex_int2 ?_ | ((with_reducible refine' dg_tup ?h1 ?_); (case h1 => rfl)) | with_reducible refine dgs_cons ?_ | with_reducible refine dgs_nil ?_ | with_reducible refine dc_lenX ?_ | with_reducible refine dr_inX ?_
  | dsimp only [List.set])
/-- a comprehension's targets -/
local macro_rules | `(tactic| walk_at "w") => `(tactic| repeat first
  | exact wp_name (by simp) | exact mo_name | exact wps_nil | exact mos_nil
  | refine wp_tup ?_ | refine wps_cons ?_ ?_ ?_ ?_ | refine mo_tup ?_ | refine mos_cons ?_ ?_)
/-- ends that are told by a value: a bool, a pair -/
local macro_rules | `(tactic| walk_at "e") => `(tactic| first
  | walk_at "d"
  | ((with_reducible refine Exists.intro _ (And.intro rfl ?_))))
section
variable {P : Program} {w : World} {K : PySem.W.Frag} {mg : Str → Option Value} {base : Heap}
/-! ### forms, more -/
theorem bl_not {c : Bool} : (!c) = true ↔ c = false := by cases c <;> simp
/-- the parts of a fare -/
def fpart (r : Rid) (o : Str) (i : Int) (t : Nat) : List (Int × Int) := if i ∈ rk r.riders o t then [(pir (rk r.riders o t).length ((((rk r.riders o t).idxOf i : Nat) : Int) + 1), r.costs.getD t 0)] else []
def fparts (r : Rid) (o : Str) (i : Int) (n : Nat) : List (Int × Int) := (List.range n).flatMap (fpart r o i)
theorem fparts_succ (r : Rid) (o : Str) (i : Int) (n : Nat) : fparts r o i (n + 1) = fparts r o i n ++ fpart r o i n := by
  unfold fparts
  rw [List.range_succ, List.flatMap_append]
  simp only [List.flatMap_cons, List.flatMap_nil, List.append_nil]
theorem fparts_len (r : Rid) (o : Str) (i : Int) : ∀ n, (fparts r o i n).length ≤ n
  | 0 => by simp [fparts]
  | n + 1 => by
    rw [fparts_succ, List.length_append]
    have := fparts_len r o i n
    have : (fpart r o i n).length ≤ 1 := by unfold fpart; split <;> simp
    omega
def ffrm (r : Rid) (o : Str) (i : Int) : Frm := ⟨0, facs (fparts r o i r.costs.length)⟩
theorem pir_bd {l : List Int} {i : Int} (h : i ∈ l) (h4 : l.length ≤ 4) : 0 ≤ pir l.length (((l.idxOf i : Nat) : Int) + 1) ∧ pir l.length (((l.idxOf i : Nat) : Int) + 1) < 10 := by
  have h1 := List.idxOf_lt_length_of_mem h
  unfold pir
  have h2 : l.length = 1 ∨ l.length = 2 ∨ l.length = 3 ∨ l.length = 4 := by omega
  rcases h2 with e | e | e | e <;> (rw [e]; rw [e] at h1; omega)
theorem fparts_bd {r : Rid} (hr : RidOk r) (o : Str) (i : Int) : ∀ n, n ≤ r.costs.length → ∀ p ∈ fparts r o i n, 0 ≤ p.1 ∧ p.1 < 10
  | 0, _, p, h => by simp [fparts] at h
  | n + 1, hn, p, h => by
    rw [fparts_succ] at h
    rcases List.mem_append.mp h with h | h
    · exact fparts_bd hr o i n (by omega) p h
    · unfold fpart at h
      split at h
      · rename_i hm
        rw [List.mem_singleton.mp h]
        exact pir_bd hm (by rw [rk_len]; exact hr.2.2 n (by omega))
      · cases h
def pr_fare_form (K : PySem.W.Frag) : PrP := fun ds Q => ∃ (r : Rid) (o : Str) (i : Int), ds = [dride K r, .str o, .int i] ∧ RidOk r ∧ Q (dfrm (ffrm r o i))
theorem len_fare_form {ds Q} (p : pr_fare_form K ds Q) : ds.length = 3 := by obtain ⟨_, _, _, rfl, _⟩ := p; rfl
theorem sc_fare_form : FnScope ["ride", "order", "rider", "parts", "stretch", "cost", "row"] ["ride", "order", "rider"] (defScope (topS 52)) := ⟨rfl, rfl, rfl, by decide +kernel, rfl, by decide +kernel, by decide +kernel⟩
theorem ok_fare_form (T : Txt K mg base) : Cal P w K mg base 6 "fare_form" ["ride", "order", "rider"] (spP K (pr_fare_form K)) := by
  refine cal_pure (T.fn "fare_form" 52 (by decide +kernel)) sc_fare_form (fun _ _ _ _ _ _ us hl => match us, hl with | [_, _, _], _ => rfl) (fun ds Q p => len_fare_form p) fun cdv A outer s H f E hr =>
    ⟨_, (pss_cons (ps_set (i := 3) sc_fare_form.nd rfl (.inl rfl) (pe_lst pa_nil))
      (pss_cons (ps_for PassesOwn.never rfl (pi_enumTK (K := K) rfl (by rfl) (T.free "enumerate" (by decide +kernel)) (pa_cons (pe_fldK (K := K) rfl (pv 0)) pa_nil)) (pg_tupK (K := K) (n := 2) rfl rfl (pgs_cons (pg_name (i := 4) sc_fare_form.nd rfl (.inl rfl)) (pgs_cons (pg_name (i := 5) sc_fare_form.nd rfl (.inl rfl)) pgs_nil)))
      (pss_cons (ps_set (i := 6) sc_fare_form.nd rfl (.inl rfl) (pe_cal (ok_ranked_at (K := K) T) (hr.mono (by decide)) (by rfl) (pa_cons (pe_fldK (K := K) rfl (pv 0)) (pa_cons (pv 1) (pa_cons (pv 4) pa_nil)))))
      (pss_one (ps_if (pt_cmpR (r := rIn K false) op_in_seq (pv 2) (pv 6) rfl) (pss_one (ps_expr (pe_appK (K := K) rfl (pv 3) (pe_tup (pa_cons (pe_cal (ok_place_in_row (K := K) T) (hr.mono (by decide)) (by rfl) (pa_cons (pe_cbK (r := DL.rLen K) call_len' boot_len (T.free "len" (by decide +kernel)) (by rfl) (pa_cons (pv 6) pa_nil)) (pa_cons (pe_op op_add (pe_ixX (pv 6) (pv 2)) pe_int) pa_nil))) (pa_cons (pv 5) pa_nil)))))) pss_nil))))
      (pss_one (ps_ret (pe_cal (ok_form_of (K := K) T) (hr.mono (by decide)) (by rfl) (pa_cons pe_int (pa_cons (pv 3) pa_nil))))))), fun b ds Q p => ?_⟩
  obtain ⟨r, o, i, rfl, hr1, q⟩ := p
  simp only [startD, List.map_nil]
  repeat walk_at "d"
  refine de_lstO ?_
  repeat walk_at "d"
  intro a ha
  repeat walk_at "d"
  refine dx_for (di_enumT ?_)
  repeat walk_at "d"
  refine fld_costs T ?_
  repeat walk_at "d"
  refine ⟨r, rfl, ?_⟩
  unfold dcosts
  repeat walk_at "d"
  refine ⟨r.costs.map Dt.int, rfl, fun n d => ∃ x y z ow, d = ⟨[some (dride K r), some (.str o), some (.int i), some (.ptr a), x, y, z], ow⟩ ∧ ow a = some (.lst ((fparts r o i n).map DL.pairD)), ⟨_, _, _, _, rfl, Own.put_same⟩, fun _ _ _ _ => trivial, ?_, ?_⟩
  · rintro n x d hx ⟨u, v, w, ow, rfl, ho⟩
    obtain ⟨y, hy, rfl⟩ := enumD_get hx
    obtain ⟨z, hz, rfl⟩ := map_get hy
    have hn : n < r.costs.length := (List.getElem?_eq_some_iff.mp hz).1
    repeat walk_at "d"
    refine fld_riders T ?_
    repeat walk_at "d"
    refine ⟨r, rfl, ?_⟩
    repeat walk_at "d"
    refine ⟨r.riders, o, _, rfl, hr1.2.1.2.1, ?_⟩
    repeat walk_at "d"
    by_cases hm : i ∈ rk r.riders o n
    · refine iteT' (decide_eq_true hm) ?_
      repeat walk_at "d"
      refine de_append ?_
      repeat walk_at "d"
      refine ⟨a, _, rfl, ho, ?_⟩
      repeat walk_at "d"
      refine de_ixX (ns := rk r.riders o n) ?_
      repeat walk_at "d"
      refine ⟨rfl, ?_⟩
      repeat walk_at "d"
      refine ⟨(rk r.riders o n).idxOf i, i, rfl, ?_, ?_, ?_⟩
      · rw [List.getElem?_eq_getElem (List.idxOf_lt_length_of_mem hm), List.getElem_idxOf]
      · intro m hmm e
        have hlt := (List.getElem?_eq_some_iff.mp e).1
        have hmm : m < List.findIdx (· == i) (rk r.riders o n) := hmm
        have := List.not_of_lt_findIdx hmm
        rw [List.getElem?_eq_getElem hlt] at e
        rw [Option.some.inj e] at this
        simp at this
      repeat walk_at "d"
      have hlen : (rk r.riders o n).length ≤ 4 := by rw [rk_len]; exact hr1.2.2 n hn
      refine ⟨_, _, rfl, by omega, by omega, ?_⟩
      repeat walk_at "d"
      refine ⟨_, ho, ?_, ?_⟩
      · rw [List.length_map]
        have := fparts_len r o i n
        have := hr1.1.2.1
        omega
      · refine ⟨_, _, _, _, rfl, ?_⟩
        rw [Own.put_same, fparts_succ, List.map_append]
        unfold fpart
        rw [if_pos hm]
        have : r.costs.getD n 0 = z := by rw [List.getD_eq_getElem?_getD, hz]; rfl
        rw [this]
        rfl
    · refine iteF' (decide_eq_false hm) ?_
      repeat walk_at "d"
      refine ⟨_, _, _, _, rfl, ?_⟩
      rw [ho, fparts_succ]
      unfold fpart
      rw [if_neg hm, List.append_nil]
  · rintro d ⟨u, v, w, ow, rfl, ho⟩
    rw [enumD_len, List.length_map] at ho
    refine dx_frzS (k := 3) (a := a) rfl ho ?_
    repeat walk_at "d"
    refine ⟨0, _, rfl, fparts_bd hr1 o i _ (Nat.le_refl _), ?_⟩
    exact q
/-- not greater than that in bits -/
def Fs (n : Nat) (f : Frm) : Prop := f.num.natAbs < 2 ^ n ∧ ∀ x ∈ f.fac, x.natAbs < 2 ^ n
def jn (one : Frm) (a : Int) (other : Frm) (b : Int) : Frm := ⟨a * one.num + b * other.num, (List.range (min one.fac.length other.fac.length)).map fun i => a * one.fac.getD i 0 + b * other.fac.getD i 0⟩
def pr_joined : PrP := fun ds Q => ∃ (one other : Frm) (a b : Int), ds = [dfrm one, .int a, dfrm other, .int b] ∧ Fs 1000 one ∧ Fs 1000 other ∧ one.fac.length ≤ 10 ∧ a.natAbs < 2 ^ 1000 ∧ b.natAbs < 2 ^ 1000 ∧ Q (dfrm (jn one a other b))
theorem len_joined {ds Q} (p : pr_joined ds Q) : ds.length = 4 := by obtain ⟨_, _, _, _, rfl, _⟩ := p; rfl
theorem sc_joined : FnScope ["one", "factor", "other", "other_factor", "factors", "here", "there"] ["one", "factor", "other", "other_factor"] (defScope (topS 53)) := ⟨rfl, rfl, rfl, by decide +kernel, rfl, by decide +kernel, by decide +kernel⟩
theorem ok_joined (T : Txt K mg base) : Cal P w K mg base 1 "joined" ["one", "factor", "other", "other_factor"] (spP K pr_joined) := by
  refine cal_pure (T.fn "joined" 53 (by decide +kernel)) sc_joined (fun _ _ _ _ _ _ us hl => match us, hl with | [_, _, _, _], _ => rfl) (fun ds Q p => len_joined p) fun cdv A outer s H f E hr =>
    ⟨_, (pss_cons (ps_setLc (i := 4) (own := [("here", 5), ("there", 6)]) (g := (gTup K 2 (gCons (gName 5) (gCons (gName 6) gNil)))) (tt := tYes) rfl sc_joined.nd rfl rfl (sw_true rfl rfl rfl (by decide +kernel)) (pi_zipK (K := K) rfl (by rfl) (T.free "zip" (by decide +kernel)) (pa_cons (pe_ixK (K := K) rfl (pv 0) pe_int) (pa_cons (pe_ixK (K := K) rfl (pv 2) pe_int) pa_nil))) (blkOk_by (own := [("here", 5), ("there", 6)]) (N := ["one", "factor", "other", "other_factor", "factors", "here", "there"]) (sc := (defScope (topS 53))) (by decide +kernel)) (fun _ _ _ _ _ => (pg_tupK (K := K) (n := 2) rfl rfl (pgs_cons (pg_name (i := 5) sc_joined.nd rfl (Or.inl rfl)) (pgs_cons (pg_name (i := 6) sc_joined.nd rfl (Or.inl rfl)) pgs_nil)))) (fun _ _ _ _ _ => pts_nil) (fun _ _ _ _ _ => (pe_op op_add (pe_op op_mulW (pv 1) (pv 5)) (pe_op op_mulW (pv 3) (pv 6)))))
      (pss_one (ps_ret (pe_tup (pa_cons (pe_op op_add (pe_op op_mulW (pv 1) (pe_ixK (K := K) rfl (pv 0) pe_int)) (pe_op op_mulW (pv 3) (pe_ixK (K := K) rfl (pv 2) pe_int))) (pa_cons (pe_ctK (r := DL.rTupleOf K) call_tuple_of' (by decide +kernel) (T.free "tuple" (by decide +kernel)) (by rfl) (pa_cons (pv 4) pa_nil)) pa_nil)))))), fun b ds Q p => ?_⟩
  obtain ⟨one, other, a, c, rfl, h1, h2, hl, ha, hc, q⟩ := p
  simp only [startD, List.map_nil, dfrm]
  repeat walk_at "d"
  refine de_lcM (by walk_at "w") (by walk_at "w") ?_
  refine di_zipT ?_
  repeat walk_at "d"
  refine ⟨_, _, rfl, by rw [zipD_len, List.length_map]; omega, fun _ _ => trivial, fun i => .int (a * one.fac.getD i 0 + c * other.fac.getD i 0), ?_, ?_⟩
  · intro b i x hx
    obtain ⟨y, z, hy, hz, rfl⟩ := zipD_get hx
    obtain ⟨y, hy', rfl⟩ := map_get hy
    obtain ⟨z, hz', rfl⟩ := map_get hz
    dsimp only [wipeD, List.map, List.set]
    rw [show one.fac.getD i 0 = y by rw [List.getD_eq_getElem?_getD, hy']; rfl, show other.fac.getD i 0 = z by rw [List.getD_eq_getElem?_getD, hz']; rfl]
    repeat walk_at "d"
    refine dr_I (wmul ha (h1.2 _ (List.mem_of_getElem? hy'))) ?_
    repeat walk_at "d"
    refine dr_I (wmul hc (h2.2 _ (List.mem_of_getElem? hz'))) ?_
    repeat walk_at "d"
    exact ⟨rfl, rfl⟩
  · rw [zipD_len, List.length_map, List.length_map]
    repeat walk_at "d"
    refine dr_I (wmul ha h1.1) ?_
    repeat walk_at "d"
    refine dr_I (wmul hc h2.1) ?_
    repeat walk_at "d"
    rw [show (List.range (min one.fac.length other.fac.length)).map (fun i => Dt.int (a * one.fac.getD i 0 + c * other.fac.getD i 0)) = ((List.range (min one.fac.length other.fac.length)).map fun i => a * one.fac.getD i 0 + c * other.fac.getD i 0).map Dt.int by rw [List.map_map]; rfl]
    repeat walk_at "d"
    exact q
end
end Cab
/-! W3c -/
set_option Elab.async false
set_option linter.all false
set_option maxRecDepth 100000
set_option maxHeartbeats 4000000
namespace Cab
open PySem PySem.Spec PyProof.Rows L2 DL
local macro_rules | `(tactic| walk_at "d") => `(tactic| first
  | with_reducible refine dx_seq ?_ | with_reducible refine dx_ret ?_ | with_reducible refine dx_asg ?_ | ((with_reducible refine dg_name ?_); dsimp only [List.set])
  | with_reducible refine de_op ?_ | ((with_reducible refine' de_var ?h1 ?_); (case h1 => exact rfl)) | with_reducible refine de_int ?_ | with_reducible refine da_cons ?_ | with_reducible refine da_nil ?_
  | ((with_reducible refine' dr_xT ?h1 ?_); (case h1 => exact rfl)) | ((with_reducible refine' dr_xL ?h1 ?_); (case h1 => exact rfl)) | with_reducible refine dr_I0 ?_ | with_reducible refine dr_I0b ?_ | with_reducible refine de_callP ?_ | with_reducible refine de_callA ?_
  | with_reducible refine de_cb ?_ | with_reducible refine de_un ?_ | with_reducible refine du_I ?_ | with_reducible refine de_bl ?_ | with_reducible refine de_non ?_ | with_reducible refine de_str ?_ | with_reducible refine de_ty ?_
  | with_reducible refine dr_eqI ?_ | with_reducible refine dr_neI ?_ | with_reducible refine dr_eqS ?_ | with_reducible refine dr_isN ?_ | with_reducible refine dr_notN ?_
  | with_reducible refine dt_and ?_ | with_reducible refine dt_or ?_ | with_reducible refine dt_not ?_ | with_reducible refine de_if ?_ | with_reducible refine de_andV ?_ | with_reducible refine de_orV ?_ | with_reducible refine de_notV ?_
  | ((with_reducible refine dt_test ?_)) | ((with_reducible refine dt_B ?_))
  | with_reducible refine dx_par' ?_ | with_reducible refine dx_par3' ?_ | with_reducible refine ex_bl ?_ | with_reducible refine ex_int ?_ | with_reducible refine isi_int ?_ | with_reducible refine isi_intB ?_ | with_reducible refine isi_tup ?_ | with_reducible refine isi_tupS ?_ | with_reducible refine isi_str ?_ | with_reducible refine de_chain ?_ | with_reducible refine dt_chain ?_ | with_reducible refine iteT ?_ | with_reducible refine iteF ?_ | with_reducible refine dx_if ?_ | with_reducible refine dx_drop ?_ | with_reducible refine dx_cont ?_ | with_reducible refine dx_next ?_
  | with_reducible refine dc_abs ?_ | with_reducible refine dc_lenT ?_ | with_reducible refine dc_lenL ?_ | with_reducible refine dc_int ?_ | with_reducible refine dc_max2 ?_ | with_reducible refine dc_min2 ?_ | with_reducible refine dc_tupL ?_
  | with_reducible refine de_fldF ?_ ?_ ?_ | with_reducible refine de_tup ?_ | ((with_reducible refine len_ok ?h1 ?_); (case h1 => exact rfl))
  | ((with_reducible refine iteT' ?h1 ?_); (case h1 => rfl)) | ((with_reducible refine iteF' ?h1 ?_); (case h1 => rfl))
  | with_reducible refine ex_int2 ?_ | ((with_reducible refine' dg_tup ?h1 ?_); (case h1 => rfl)) | with_reducible refine dgs_cons ?_ | with_reducible refine dgs_nil ?_ | with_reducible refine dc_lenX ?_ | with_reducible refine dr_inX ?_
  | dsimp only [List.set])
/-- a comprehension's targets -/
local macro_rules | `(tactic| walk_at "w") => `(tactic| repeat first
  | exact wp_name (by simp) | exact mo_name | exact wps_nil | exact mos_nil
  | refine wp_tup ?_ | refine wps_cons ?_ ?_ ?_ ?_ | refine mo_tup ?_ | refine mos_cons ?_ ?_)
/-- ends that are told by a value: a bool, a pair -/
local macro_rules | `(tactic| walk_at "e") => `(tactic| first
  | walk_at "d"
  | ((with_reducible refine Exists.intro _ (And.intro rfl ?_))))
section
variable {P : Program} {w : World} {K : PySem.W.Frag} {mg : Str → Option Value} {base : Heap}
/-! ### corners, rows -/
def pirN (c : Nat) : Nat := c * (c - 1) / 2
def crn (fac : List Int) (c : Nat) : List Int := (List.range c).map fun m => ((fac.drop (pirN c)).take (m + 1)).sum * (12 / (((m : Nat) : Int) + 1))
theorem crn_len (fac : List Int) (c : Nat) : (crn fac c).length = c := by simp [crn]
def crns (fac : List Int) (n : Nat) : List Dt := (List.range n).map fun c => .lst ((crn fac (c + 1)).map Dt.int)
theorem sum_bd {n : Nat} : ∀ {l : List Int}, (∀ x ∈ l, x.natAbs < 2 ^ n) → l.sum.natAbs ≤ l.length * 2 ^ n
  | [], _ => by simp
  | x :: l, h => by
    have h1 := sum_bd (fun y hy => h y (List.mem_cons_of_mem _ hy)) (l := l)
    have h2 := h x List.mem_cons_self
    rw [List.sum_cons, List.length_cons, Nat.add_mul]
    omega
theorem sIx_in {n : Nat} {k : Nat} {dflt : Nat} (h : k ≤ n) : HT.sIx n dflt (some (k : Int)) = k := by
  rw [HT.sIx_nat]; omega
theorem cut_in {xs : List Int} {lo hi : Nat} (h : lo ≤ xs.length) (h' : hi ≤ xs.length) : DL.cutD (xs.map Dt.int) (some (lo : Int)) (some (hi : Int)) = ((xs.drop lo).take (hi - lo)).map Dt.int := by
  unfold DL.cutD
  rw [List.length_map, sIx_in h, sIx_in h', ← List.map_drop, ← List.map_take]
def pr_corners : PrP := fun ds Q => ∃ f : Frm, ds = [dfrm f] ∧ f.fac.length = 10 ∧ Fs 1000 f ∧ Q (.lst (crns f.fac 4))
theorem len_corners {ds Q} (p : pr_corners ds Q) : ds.length = 1 := by obtain ⟨_, rfl, _⟩ := p; rfl
theorem sc_corners : FnScope ["form", "found", "count", "first", "many"] ["form"] (defScope (topS 54)) := ⟨rfl, rfl, rfl, by decide +kernel, rfl, by decide +kernel, by decide +kernel⟩
theorem ok_corners (T : Txt K mg base) : Cal P w K mg base 2 "corners" ["form"] (spP K pr_corners) := by
  refine cal_pure (T.fn "corners" 54 (by decide +kernel)) sc_corners (fun _ _ _ _ _ _ us hl => match us, hl with | [_], _ => rfl) (fun ds Q p => len_corners p) fun cdv A outer s H f E hr =>
    ⟨_, (pss_cons (ps_set (i := 1) sc_corners.nd rfl (.inl rfl) (pe_lst pa_nil))
      (pss_cons (ps_for PassesOwn.never rfl (pi_range2 (by rfl) (T.free "range" (by decide +kernel)) (pa_cons pe_int (pa_cons (pe_op op_add (pe_gint (T.gint "MOST_ABOARD" 4 (by decide +kernel)) (by rfl)) pe_int) pa_nil))) (pg_name (i := 2) sc_corners.nd rfl (.inl rfl))
      (pss_cons (ps_set (i := 3) sc_corners.nd rfl (.inr rfl) (pe_cal (ok_place_in_row (K := K) T) (hr.mono (by decide)) (by rfl) (pa_cons (pv 2) (pa_cons pe_int pa_nil))))
      (pss_one (ps_expr (pe_appK (K := K) rfl (pv 1) (pe_lc (own := [("many", 4)]) (g := (gName 4)) (tt := tYes) rfl sc_corners.nd (pi_range2 (by rfl) (T.free "range" (by decide +kernel)) (pa_cons pe_int (pa_cons (pe_op op_add (pv 2) pe_int) pa_nil))) (blkOk_by (own := [("many", 4)]) (N := ["form", "found", "count", "first", "many"]) (sc := (defScope (topS 54))) (by decide +kernel)) (fun _ _ _ _ _ => (pg_name (i := 4) sc_corners.nd rfl (Or.inl rfl))) (fun _ _ _ _ _ => pts_nil) (fun _ _ _ _ _ => (pe_op op_mulW (pe_cbK (r := rSumT K) (cr_sumTK (K := K) rfl rfl) (by decide +kernel) (T.free "sum" (by decide +kernel)) (by rfl) (pa_cons (pe_slice (r := rSlT K) sl_tup (pe_ixK (K := K) rfl (pv 0) pe_int) (po_some (pv 3)) (po_some (pe_op op_add (pv 3) (pv 4)))) pa_nil)) (pe_op op_fdivW (pe_gint (T.gint "SCALE" 12 (by decide +kernel)) (by rfl)) (pv 4))))))))))
      (pss_one (ps_ret (pv 1))))), fun b ds Q p => ?_⟩
  obtain ⟨f, rfl, hl, hf, q⟩ := p
  simp only [startD, List.map_nil, dfrm]
  repeat walk_at "d"
  refine de_lstO ?_
  repeat walk_at "d"
  intro a ha
  repeat walk_at "d"
  refine dx_for (di_rng2 ?_)
  repeat walk_at "d"
  refine ⟨1, 5, rfl, by omega, fun n d => ∃ x y z ow, d = ⟨[some (.tup [.int f.num, .tup (f.fac.map Dt.int)]), some (.ptr a), x, y, z], ow⟩ ∧ ow a = some (.lst (crns f.fac n)), ⟨_, _, _, _, rfl, Own.put_same⟩, fun _ _ _ _ => trivial, ?_, ?_⟩
  · rintro n x d hx ⟨u, v, w, ow, rfl, ho⟩
    obtain ⟨rfl, hn⟩ := rangeD_get hx
    have hn : n < 4 := hn
    repeat walk_at "d"
    refine ⟨_, _, rfl, by omega, by omega, ?_⟩
    have hp : pir (1 + (n : Int)) 1 = ((pirN (n + 1) : Nat) : Int) := by
      have : n = 0 ∨ n = 1 ∨ n = 2 ∨ n = 3 := by omega
      rcases this with e | e | e | e <;> (subst e; decide)
    have hb : pirN (n + 1) + n + 1 ≤ 10 := by
      have : n = 0 ∨ n = 1 ∨ n = 2 ∨ n = 3 := by omega
      rcases this with e | e | e | e <;> (subst e; decide)
    rw [hp]
    repeat walk_at "d"
    refine de_append ?_
    repeat walk_at "d"
    refine ⟨a, _, rfl, ho, ?_⟩
    refine de_lcM (by walk_at "w") (by walk_at "w") ?_
    refine di_rng2 ?_
    repeat walk_at "d"
    have hr : (1 + (n : Int) + 1 - 1).toNat = n + 1 := by omega
    refine ⟨1, 1 + (n : Int) + 1, rfl, by omega, by rw [rangeD_len]; omega, fun _ _ => trivial, fun m => .int (((f.fac.drop (pirN (n + 1))).take (m + 1)).sum * (12 / (((m : Nat) : Int) + 1))), ?_, ?_⟩
    · intro b m y hy
      obtain ⟨rfl, hm⟩ := rangeD_get hy
      rw [hr] at hm
      dsimp only [wipeD, List.map, List.set]
      repeat walk_at "d"
      refine de_slT ?_
      repeat walk_at "d"
      refine do_some ?_
      repeat walk_at "d"
      refine do_some ?_
      repeat walk_at "d"
      have e1 : ((pirN (n + 1) : Nat) : Int) + (1 + (m : Int)) = ((pirN (n + 1) + (m + 1) : Nat) : Int) := by omega
      rw [e1]
      refine ⟨_, rfl, ?_, ?_⟩
      · rw [List.length_map, hl, sIx_in (by omega), sIx_in (by omega)]
        omega
      rw [cut_in (by omega) (by omega), show pirN (n + 1) + (m + 1) - pirN (n + 1) = m + 1 by omega]
      repeat walk_at "d"
      refine dc_sumT ?_
      repeat walk_at "d"
      have hd : CDivW 12 (1 + (m : Int)) := smallW (by omega) (by omega)
      refine dr_I hd ?_
      repeat walk_at "d"
      have hs : ((f.fac.drop (pirN (n + 1))).take (m + 1)).sum.natAbs < 2 ^ 1010 := by
        have h1 := sum_bd (l := (f.fac.drop (pirN (n + 1))).take (m + 1)) (n := 1000) fun x hx => hf.2 x (List.mem_of_mem_drop (List.mem_of_mem_take hx))
        have h2 : ((f.fac.drop (pirN (n + 1))).take (m + 1)).length ≤ 10 := by rw [List.length_take, List.length_drop, hl]; omega
        refine Nat.lt_of_le_of_lt (Nat.le_trans h1 (Nat.mul_le_mul_right _ h2)) ?_
        rw [show (1010 : Nat) = 10 + 1000 from rfl, Nat.pow_add]
        exact Nat.mul_lt_mul_of_pos_right (by decide) (Nat.two_pow_pos _)
      have h12 : (12 / (1 + (m : Int))).natAbs < 2 ^ 10 := by
        have : m = 0 ∨ m = 1 ∨ m = 2 ∨ m = 3 := by omega
        rcases this with e | e | e | e <;> (subst e; decide)
      refine dr_I (wmul hs h12) ?_
      repeat walk_at "d"
      refine ⟨rfl, ?_⟩
      rw [Int.add_comm 1 (m : Int)]
    · rw [rangeD_len, hr]
      repeat walk_at "d"
      refine ⟨_, ho, by simp [crns]; omega, ?_⟩
      refine ⟨_, _, _, _, rfl, ?_⟩
      rw [Own.put_same]
      have e1 : crns f.fac (n + 1) = crns f.fac n ++ [.lst ((crn f.fac (n + 1)).map Dt.int)] := by
        unfold crns
        rw [List.range_succ, List.map_append]; rfl
      rw [e1]
      unfold crn
      rw [List.map_map]; rfl
  · rintro d ⟨u, v, w, ow, rfl, ho⟩
    rw [rangeD_len] at ho
    refine dx_frzS (k := 1) (a := a) rfl ho ?_
    repeat walk_at "d"
    exact q
def vrs : List (Int × Int) := plc.filter fun p => decide (1 < p.2)
def pr_variables : PrP := fun ds Q => ds = [] ∧ Q (.lst (vrs.map DL.pairD))
theorem len_variables {ds Q} (p : pr_variables ds Q) : ds.length = 0 := by obtain ⟨rfl, _⟩ := p; rfl
theorem sc_variables : FnScope ["count", "many"] [] (defScope (topS 56)) := ⟨rfl, rfl, rfl, by decide +kernel, rfl, by decide +kernel, by decide +kernel⟩
theorem ok_variables (T : Txt K mg base) : Cal P w K mg base 2 "variables" [] (spP K pr_variables) := by
  refine cal_pure (T.fn "variables" 56 (by decide +kernel)) sc_variables (fun _ _ _ _ _ _ us hl => match us, hl with | [], _ => rfl) (fun ds Q p => len_variables p) fun cdv A outer s H f E hr =>
    ⟨_, (pss_one (ps_ret (pe_lc (own := [("count", 0), ("many", 1)]) (g := (gTup K 2 (gCons (gName 0) (gCons (gName 1) gNil)))) rfl sc_variables.nd (pi_listK (K := K) rfl (pe_cal0 (ok_places (K := K) T) (hr.mono (by decide)) (by rfl))) (blkOk_by (own := [("count", 0), ("many", 1)]) (N := ["count", "many"]) (sc := (defScope (topS 56))) (by decide +kernel)) (fun _ _ _ _ _ => (pg_tupK (K := K) (n := 2) rfl rfl (pgs_cons (pg_name (i := 0) sc_variables.nd rfl (Or.inl rfl)) (pgs_cons (pg_name (i := 1) sc_variables.nd rfl (Or.inl rfl)) pgs_nil)))) (fun _ _ _ _ _ => (pts_one (pt_cmpR op_gt (pv 1) pe_int (nomark _)))) (fun _ _ _ _ _ => (pe_tup (pa_cons (pv 0) (pa_cons (pv 1) pa_nil))))))), fun b ds Q p => ?_⟩
  obtain ⟨rfl, q⟩ := p
  simp only [startD, List.map_nil]
  repeat walk_at "d"
  refine de_lcP (by walk_at "w") (by walk_at "w") ?_
  refine di_list ?_
  repeat walk_at "d"
  refine ⟨rfl, ?_⟩
  repeat walk_at "d"
  refine ⟨_, rfl, by decide, fun _ _ => trivial, fun i => decide (1 < (plc.getD i (0, 0)).2), fun i => DL.pairD (plc.getD i (0, 0)), ?_, ?_⟩
  · intro b i x hx
    obtain ⟨z, hz, rfl⟩ := map_get hx
    dsimp only [wipeD, List.map, List.set, DL.pairD]
    rw [show plc.getD i (0, 0) = z by rw [List.getD_eq_getElem?_getD, hz]; rfl]
    repeat walk_at "d"
    refine ⟨rfl, ?_⟩
    by_cases h : 1 < z.2
    · rw [if_pos (decide_eq_true h)]
      repeat walk_at "d"
      exact ⟨rfl, rfl⟩
    · rw [if_neg (by simp [h])]
  · exact q
/-- 12 times a form, by the variables -/
def rowOf (f : Frm) : List Int := (vrs.map fun p => (crn f.fac p.1.toNat).getD (p.2.toNat - 1) 0 - (crn f.fac p.1.toNat).getD 0 0) ++ [12 * f.num + ((List.range 4).map fun c => (crn f.fac (c + 1)).getD 0 0).sum]
def pr_row_of : PrP := fun ds Q => ∃ f : Frm, ds = [dfrm f] ∧ f.fac.length = 10 ∧ Fs 1000 f ∧ Q (.lst ((rowOf f).map Dt.int))
theorem len_row_of {ds Q} (p : pr_row_of ds Q) : ds.length = 1 := by obtain ⟨_, rfl, _⟩ := p; rfl
theorem vrs_bd {z : Int × Int} (h : z ∈ vrs) : ∃ c m : Nat, z = ((c : Int) + 1, (m : Int) + 1) ∧ c < 4 ∧ m ≤ c := by
  have : vrs = [(2, 2), (3, 2), (3, 3), (4, 2), (4, 3), (4, 4)] := by rfl
  rw [this] at h
  simp only [List.mem_cons, List.not_mem_nil, or_false] at h
  rcases h with h | h | h | h | h | h
  · exact ⟨1, 1, h, by omega, by omega⟩
  · exact ⟨2, 1, h, by omega, by omega⟩
  · exact ⟨2, 2, h, by omega, by omega⟩
  · exact ⟨3, 1, h, by omega, by omega⟩
  · exact ⟨3, 2, h, by omega, by omega⟩
  · exact ⟨3, 3, h, by omega, by omega⟩
theorem crns_get {fac : List Int} {c : Nat} (h : c < 4) : atI (crns fac 4) (((c : Nat) : Int)) = some (.lst ((crn fac (c + 1)).map Dt.int)) := by
  have : c = 0 ∨ c = 1 ∨ c = 2 ∨ c = 3 := by omega
  rcases this with e | e | e | e <;> (subst e; rfl)
theorem crn_get {fac : List Int} {c m : Nat} (h : m < c) : atI ((crn fac c).map Dt.int) ((m : Nat) : Int) = some (.int ((crn fac c).getD m 0)) := by
  unfold atI
  rw [List.length_map, crn_len]
  have : ixN c ((m : Nat) : Int) = some m := by unfold ixN; rw [if_pos (by omega), if_pos (by omega)]; simp
  rw [this]
  show ((crn fac c).map Dt.int)[m]? = _
  rw [List.getElem?_map, List.getD_eq_getElem?_getD, List.getElem?_eq_getElem (by rw [crn_len]; exact h)]
  rfl
theorem sc_row_of : FnScope ["form", "found", "factors", "count", "many", "row"] ["form"] (defScope (topS 57)) := ⟨rfl, rfl, rfl, by decide +kernel, rfl, by decide +kernel, by decide +kernel⟩
theorem ok_row_of (T : Txt K mg base) : Cal P w K mg base 3 "row_of" ["form"] (spP K pr_row_of) := by
  refine cal_pure (T.fn "row_of" 57 (by decide +kernel)) sc_row_of (fun _ _ _ _ _ _ us hl => match us, hl with | [_], _ => rfl) (fun ds Q p => len_row_of p) fun cdv A outer s H f E hr =>
    ⟨_, (pss_cons (ps_set (i := 1) sc_row_of.nd rfl (.inr rfl) (pe_cal (ok_corners (K := K) T) (hr.mono (by decide)) (by rfl) (pa_cons (pv 0) pa_nil)))
      (pss_cons (ps_setLc (i := 2) (own := [("count", 3), ("many", 4)]) (g := (gTup K 2 (gCons (gName 3) (gCons (gName 4) gNil)))) (tt := tYes) rfl sc_row_of.nd rfl rfl (sw_true rfl rfl rfl (by decide +kernel)) (pi_listK (K := K) rfl (pe_cal0 (ok_variables (K := K) T) (hr.mono (by decide)) (by rfl))) (blkOk_by (own := [("count", 3), ("many", 4)]) (N := ["form", "found", "factors", "count", "many", "row"]) (sc := (defScope (topS 57))) (by decide +kernel)) (fun _ _ _ _ _ => (pg_tupK (K := K) (n := 2) rfl rfl (pgs_cons (pg_name (i := 3) sc_row_of.nd rfl (Or.inl rfl)) (pgs_cons (pg_name (i := 4) sc_row_of.nd rfl (Or.inl rfl)) pgs_nil)))) (fun _ _ _ _ _ => pts_nil) (fun _ _ _ _ _ => (pe_op op_sub (pe_ixK (K := K) rfl (pe_ixK (K := K) rfl (pv 1) (pe_op op_sub (pv 3) pe_int)) (pe_op op_sub (pv 4) pe_int)) (pe_ixK (K := K) rfl (pe_ixK (K := K) rfl (pv 1) (pe_op op_sub (pv 3) pe_int)) pe_int))))
      (pss_one (ps_ret (pe_op op_cat (pv 2) (pe_lst (pa_cons (pe_op op_add (pe_op op_mulW (pe_gint (T.gint "SCALE" 12 (by decide +kernel)) (by rfl)) (pe_ixK (K := K) rfl (pv 0) pe_int)) (pe_cbK (r := rSum K) (cr_sum rfl) (by decide +kernel) (T.free "sum" (by decide +kernel)) (by rfl) (pa_cons (pe_lc (own := [("row", 5)]) (g := (gName 5)) (tt := tYes) rfl sc_row_of.nd (pi_listK (K := K) rfl (pv 1)) (blkOk_by (own := [("row", 5)]) (N := ["form", "found", "factors", "count", "many", "row"]) (sc := (defScope (topS 57))) (by decide +kernel)) (fun _ _ _ _ _ => (pg_name (i := 5) sc_row_of.nd rfl (Or.inl rfl))) (fun _ _ _ _ _ => pts_nil) (fun _ _ _ _ _ => (pe_ixK (K := K) rfl (pv 5) pe_int))) pa_nil))) pa_nil))))))), fun b ds Q p => ?_⟩
  obtain ⟨f, rfl, hl, hf, q⟩ := p
  simp only [startD, List.map_nil]
  repeat walk_at "d"
  refine ⟨f, rfl, hl, hf, ?_⟩
  repeat walk_at "d"
  refine de_lcMO (by walk_at "w") (by walk_at "w") ?_
  refine di_list ?_
  repeat walk_at "d"
  refine ⟨rfl, ?_⟩
  repeat walk_at "d"
  refine ⟨_, rfl, by decide, fun _ _ => trivial, fun i => .int ((crn f.fac (vrs.getD i (1, 1)).1.toNat).getD ((vrs.getD i (1, 1)).2.toNat - 1) 0 - (crn f.fac (vrs.getD i (1, 1)).1.toNat).getD 0 0), ?_, ?_⟩
  · intro b i x hx
    obtain ⟨z, hz, rfl⟩ := map_get hx
    dsimp only [wipeD, List.map, List.set, DL.pairD]
    rw [show vrs.getD i (1, 1) = z by rw [List.getD_eq_getElem?_getD, hz]; rfl]
    obtain ⟨c, m, rfl, hc, hm⟩ := vrs_bd (List.mem_of_getElem? hz)
    dsimp only
    repeat walk_at "d"
    rw [show (c : Int) + 1 - 1 = ((c : Nat) : Int) by omega]
    refine dr_xL (crns_get hc) ?_
    repeat walk_at "d"
    rw [show (m : Int) + 1 - 1 = ((m : Nat) : Int) by omega]
    refine dr_xL (crn_get (by omega)) ?_
    repeat walk_at "d"
    rw [show (c : Int) + 1 - 1 = ((c : Nat) : Int) by omega]
    refine dr_xL (crns_get hc) ?_
    repeat walk_at "d"
    refine dr_xL (crn_get (m := 0) (by omega)) ?_
    repeat walk_at "d"
    refine ⟨rfl, ?_⟩
    simp
  · intro a ha
    (with_reducible refine dg_name ?_)
    dsimp only [List.set]
    (with_reducible refine dx_ret ?_)
    refine de_frz ?_
    repeat walk_at "d"
    refine de_lstO ?_
    simp only [dfrm]
    repeat walk_at "d"
    refine dr_I (wmul (a := 10) (by decide) hf.1) ?_
    repeat walk_at "d"
    refine de_lcM (by walk_at "w") (by walk_at "w") ?_
    refine di_list ?_
    repeat walk_at "d"
    refine ⟨_, rfl, by simp [crns], fun _ _ => trivial, fun i => .int ((crn f.fac (i + 1)).getD 0 0), ?_, ?_⟩
    · intro b i x hx
      obtain ⟨c, hc, rfl⟩ := map_get hx
      have hi : i < 4 := by simpa using (List.getElem?_eq_some_iff.mp hc).1
      have ec : c = i := by
        have := List.getElem?_range hi
        rw [hc] at this; exact Option.some.inj this
      subst ec
      dsimp only [wipeD, List.map, List.set]
      repeat walk_at "d"
      refine dr_xL (crn_get (m := 0) (by omega)) ?_
      exact ⟨rfl, rfl⟩
    · repeat walk_at "d"
      have e : (List.range (crns f.fac 4).length).map (fun i => Dt.int ((crn f.fac (i + 1)).getD 0 0)) = ((List.range 4).map fun i => (crn f.fac (i + 1)).getD 0 0).map Dt.int := by rfl
      rw [e]
      refine dc_sumL ?_
      repeat walk_at "d"
      intro c hc'
      have hac : a ≠ c := fun z => by subst z; rw [Own.put_same] at hc'; cases hc'
      refine' dr_cat ?h1 (fun e he => ?h4) ?h2 ?h3
      case h2 => exact (Own.put_ne hac).trans Own.put_same
      case h3 => exact Own.put_same
      case h1 => simp [vrs, plc, plN, List.range_succ]
      refine ⟨e, _, rfl, Own.put_same, ?_⟩
      exact q
end
end Cab
/-! MLnk -/
set_option Elab.async false
set_option linter.all false
set_option maxRecDepth 100000
set_option maxHeartbeats 4000000
/-! The first board of forms; tables and mixtures of corners. -/
namespace Cab
open Tab Det Term
def slk (c : Int) : List Int := (vrs.map fun p => if p.1 = c then 1 else 0) ++ [1]
def noRow (r : List Int) : List Int := (r.take 6).map (fun e => -e) ++ r.drop 6
def goalRow (r : List Int) : List Int := (r.take 6).map (fun e => -e) ++ [0]
def iniB (fs : List Frm) (a : Frm) : Bd where
  bottom := 1
  above := (List.range 6).map fun i => ((i : Nat) : Int)
  aside := (List.range (3 + fs.length)).map fun i => 6 + ((i : Nat) : Int)
  rows := [slk 2, slk 3, slk 4] ++ fs.map (fun f => noRow (rowOf f)) ++ [goalRow (rowOf a)]
  base := (rowOf a).getD 6 0
/-- sum of a row's six entries, each times its variable -/
def dot6 (r : List Int) (x : Nat → Int) : Int := r.getD 0 0 * x 0 + r.getD 1 0 * x 1 + r.getD 2 0 * x 2 + r.getD 3 0 * x 3 + r.getD 4 0 * x 4 + r.getD 5 0 * x 5
theorem rowOf_len (f : Frm) : (rowOf f).length = 7 := by
  unfold rowOf
  rw [List.length_append, List.length_map]; rfl
theorem ini_row {fs : List Frm} {a : Frm} (i : Nat) : (iniB fs a).rows.getD i [] = if i = 0 then slk 2 else if i = 1 then slk 3 else if i = 2 then slk 4 else if h : i - 3 < fs.length then noRow (rowOf fs[i - 3]) else if i = 3 + fs.length then goalRow (rowOf a) else [] := by
  show ([slk 2, slk 3, slk 4] ++ fs.map (fun f => noRow (rowOf f)) ++ [goalRow (rowOf a)]).getD i [] = _
  rw [List.getD_eq_getElem?_getD]
  match i with
  | 0 => rfl
  | 1 => rfl
  | 2 => rfl
  | i + 3 =>
    rw [if_neg (by omega), if_neg (by omega), if_neg (by omega), show i + 3 - 3 = i by omega]
    show ((fs.map (fun f => noRow (rowOf f)) ++ [goalRow (rowOf a)])[i]?).getD [] = _
    by_cases h : i < fs.length
    · rw [dif_pos h, List.getElem?_append_left (by rw [List.length_map]; exact h), List.getElem?_map, List.getElem?_eq_getElem h]; rfl
    · rw [dif_neg h, List.getElem?_append_right (by rw [List.length_map]; omega), List.length_map]
      by_cases e : i = fs.length
      · subst e; rw [Nat.sub_self, if_pos (by omega)]; rfl
      · rw [if_neg (by omega), List.getElem?_eq_none (by simp; omega)]; rfl
theorem noRow_len {r : List Int} (h : r.length = 7) : (noRow r).length = 7 := by
  unfold noRow; rw [List.length_append, List.length_map, List.length_take, List.length_drop]; omega
theorem goalRow_len {r : List Int} (h : r.length = 7) : (goalRow r).length = 7 := by
  unfold goalRow; rw [List.length_append, List.length_map, List.length_take]; simp; omega
theorem slk_len (c : Int) : (slk c).length = 7 := by unfold slk; rw [List.length_append, List.length_map]; rfl
theorem ini_rlen {fs : List Frm} {a : Frm} (i : Nat) (h : i ≤ 3 + fs.length) : ((iniB fs a).rows.getD i []).length = 7 := by
  rw [ini_row]
  split
  · exact slk_len _
  split
  · exact slk_len _
  split
  · exact slk_len _
  split
  · exact noRow_len (rowOf_len _)
  rw [if_pos (by omega)]
  exact goalRow_len (rowOf_len _)
theorem ini_shp (fs : List Frm) (a : Frm) : Shp 6 (3 + fs.length) (iniB fs a) where
  above := by show ((List.range 6).map _).length = 6; simp
  aside := by show ((List.range _).map _).length = _; rw [List.length_map, List.length_range]
  rows := by
    show ([slk 2, slk 3, slk 4] ++ fs.map (fun f => noRow (rowOf f)) ++ [goalRow (rowOf a)]).length = _
    simp only [List.length_append, List.length_map, List.length_cons, List.length_nil]
  row := fun i hi => ini_rlen i hi
  abP := fun j hj => by
    show 0 ≤ ((List.range 6).map _).getD j 0
    rw [getD_rmap hj]; omega
  asP := fun i hi => by
    show 0 ≤ ((List.range _).map _).getD i 0
    rw [getD_rmap hi]; omega
theorem ini_ini (fs : List Frm) (a : Frm) : Ini 6 (3 + fs.length) (tbOf 6 (3 + fs.length) (iniB fs a)) where
  d := rfl
  ab := fun j hj => by
    show (((List.range 6).map fun i => ((i : Nat) : Int)).getD j 0).toNat = j
    rw [getD_rmap hj]; simp
  as := fun i hi => by
    show (if i < 3 + fs.length then (((List.range (3 + fs.length)).map fun i => 6 + ((i : Nat) : Int)).getD i 0).toNat else 6 + (3 + fs.length)) = 6 + i
    by_cases h : i < 3 + fs.length
    · rw [if_pos h, getD_rmap h]; omega
    · rw [if_neg h]; omega
theorem sm6 (f : Nat → Int) : sm 6 f = f 0 + f 1 + f 2 + f 3 + f 4 + f 5 := by simp [sm]
theorem list7 {r : List Int} (h : r.length = 7) : ∃ a b c d e f g, r = [a, b, c, d, e, f, g] := by
  match r, h with
  | [a, b, c, d, e, f, g], _ => exact ⟨a, b, c, d, e, f, g, rfl⟩
theorem list10 {r : List Int} (h : r.length = 10) : ∃ a b c d e f g i j k, r = [a, b, c, d, e, f, g, i, j, k] := by
  match r, h with
  | [a, b, c, d, e, f, g, i, j, k], _ => exact ⟨a, b, c, d, e, f, g, i, j, k, rfl⟩
/-- what the first board says of a solution -/
theorem ini_sol {fs : List Frm} {a : Frm} {x : Nat → Int} {h : Int} (X : Sol 6 (3 + fs.length) (tbOf 6 (3 + fs.length) (iniB fs a)) x h) :
    x 6 = h - x 0 ∧ x 7 = h - (x 1 + x 2) ∧ x 8 = h - (x 3 + x 4 + x 5) ∧ (∀ k (hk : k < fs.length), x (9 + k) = dot6 (rowOf fs[k]) x + (rowOf fs[k]).getD 6 0 * h) ∧ x (6 + (3 + fs.length)) = dot6 (rowOf a) x := by
  have key : ∀ i, i ≤ 3 + fs.length → x (6 + i) + dot6 ((iniB fs a).rows.getD i []) x = ((iniB fs a).rows.getD i []).getD 6 0 * h := fun i hi => by
    have e := X i hi
    rw [(ini_ini fs a).as i hi, (ini_ini fs a).d] at e
    rw [sm6] at e
    rw [(ini_ini fs a).ab 0 (by omega), (ini_ini fs a).ab 1 (by omega), (ini_ini fs a).ab 2 (by omega), (ini_ini fs a).ab 3 (by omega), (ini_ini fs a).ab 4 (by omega), (ini_ini fs a).ab 5 (by omega)] at e
    rw [Int.one_mul] at e
    exact e
  refine ⟨?_, ?_, ?_, fun k hk => ?_, ?_⟩
  · have e := key 0 (by omega)
    rw [ini_row, if_pos rfl, show slk 2 = [1, 0, 0, 0, 0, 0, 1] by rfl] at e
    simp [dot6] at e
    omega
  · have e := key 1 (by omega)
    rw [ini_row, if_neg (by omega), if_pos rfl, show slk 3 = [0, 1, 1, 0, 0, 0, 1] by rfl] at e
    simp [dot6] at e
    omega
  · have e := key 2 (by omega)
    rw [ini_row, if_neg (by omega), if_neg (by omega), if_pos rfl, show slk 4 = [0, 0, 0, 1, 1, 1, 1] by rfl] at e
    simp [dot6] at e
    omega
  · have e := key (3 + k) (by omega)
    rw [ini_row, if_neg (by omega), if_neg (by omega), if_neg (by omega), dif_pos (by omega)] at e
    have e0 : fs[3 + k - 3] = fs[k] := by congr 1; omega
    rw [e0] at e
    obtain ⟨r0, r1, r2, r3, r4, r5, r6, er⟩ := list7 (rowOf_len fs[k])
    rw [er] at e ⊢
    rw [show 6 + (3 + k) = 9 + k by omega] at e
    simp [dot6, noRow] at e ⊢
    grind
  · have e := key (3 + fs.length) (Nat.le_refl _)
    rw [ini_row, if_neg (by omega), if_neg (by omega), if_neg (by omega), dif_neg (by omega), if_pos rfl] at e
    obtain ⟨r0, r1, r2, r3, r4, r5, r6, er⟩ := list7 (rowOf_len a)
    rw [er] at e ⊢
    simp [dot6, goalRow] at e ⊢
    grind
/-- and back -/
theorem ini_sol' {fs : List Frm} {a : Frm} {x : Nat → Int} {h : Int}
    (h6 : x 6 = h - x 0) (h7 : x 7 = h - (x 1 + x 2)) (h8 : x 8 = h - (x 3 + x 4 + x 5)) (hr : ∀ k (hk : k < fs.length), x (9 + k) = dot6 (rowOf fs[k]) x + (rowOf fs[k]).getD 6 0 * h) (ha : x (6 + (3 + fs.length)) = dot6 (rowOf a) x) :
    Sol 6 (3 + fs.length) (tbOf 6 (3 + fs.length) (iniB fs a)) x h := by
  intro i hi
  rw [(ini_ini fs a).as i hi, (ini_ini fs a).d, sm6]
  rw [(ini_ini fs a).ab 0 (by omega), (ini_ini fs a).ab 1 (by omega), (ini_ini fs a).ab 2 (by omega), (ini_ini fs a).ab 3 (by omega), (ini_ini fs a).ab 4 (by omega), (ini_ini fs a).ab 5 (by omega), Int.one_mul]
  show x (6 + i) + dot6 ((iniB fs a).rows.getD i []) x = ((iniB fs a).rows.getD i []).getD 6 0 * h
  rw [ini_row]
  by_cases e0 : i = 0
  · subst e0
    rw [if_pos rfl, show slk 2 = [1, 0, 0, 0, 0, 0, 1] by rfl]
    simp [dot6]; omega
  rw [if_neg e0]
  by_cases e1 : i = 1
  · subst e1
    rw [if_pos rfl, show slk 3 = [0, 1, 1, 0, 0, 0, 1] by rfl]
    simp [dot6]; omega
  rw [if_neg e1]
  by_cases e2 : i = 2
  · subst e2
    rw [if_pos rfl, show slk 4 = [0, 0, 0, 1, 1, 1, 1] by rfl]
    simp [dot6]; omega
  rw [if_neg e2]
  by_cases e3 : i - 3 < fs.length
  · rw [dif_pos e3]
    have hk := hr (i - 3) e3
    rw [show 9 + (i - 3) = 6 + i by omega] at hk
    obtain ⟨r0, r1, r2, r3, r4, r5, r6, er⟩ := list7 (rowOf_len fs[i - 3])
    rw [er] at hk ⊢
    simp [dot6, noRow] at hk ⊢
    grind
  · rw [dif_neg e3, if_pos (by omega)]
    have e4 : i = 3 + fs.length := by omega
    subst e4
    obtain ⟨r0, r1, r2, r3, r4, r5, r6, er⟩ := list7 (rowOf_len a)
    rw [er] at ha ⊢
    simp [dot6, goalRow] at ha ⊢
    grind
theorem ini_bdd {fs : List Frm} {a : Frm} (x : Nat → Int) (hx : ∀ v, v < 6 + (3 + fs.length) → 0 ≤ x v) (X : Sol 6 (3 + fs.length) (tbOf 6 (3 + fs.length) (iniB fs a)) x 0) : ∀ v, v < 6 + (3 + fs.length) → x v = 0 := by
  obtain ⟨e6, e7, e8, er, _⟩ := ini_sol X
  have p := fun v (h : v < 9) => hx v (by omega)
  have p0 := p 0 (by omega); have p1 := p 1 (by omega); have p2 := p 2 (by omega); have p3 := p 3 (by omega); have p4 := p 4 (by omega); have p5 := p 5 (by omega)
  have p6 := p 6 (by omega); have p7 := p 7 (by omega); have p8 := p 8 (by omega)
  have z0 : x 0 = 0 := by omega
  have z1 : x 1 = 0 := by omega
  have z2 : x 2 = 0 := by omega
  have z3 : x 3 = 0 := by omega
  have z4 : x 4 = 0 := by omega
  have z5 : x 5 = 0 := by omega
  intro v hv
  by_cases h9 : v < 9
  · have : v = 0 ∨ v = 1 ∨ v = 2 ∨ v = 3 ∨ v = 4 ∨ v = 5 ∨ v = 6 ∨ v = 7 ∨ v = 8 := by omega
    rcases this with e | e | e | e | e | e | e | e | e <;> (subst e; omega)
  · have e := er (v - 9) (by omega)
    rw [show 9 + (v - 9) = v by omega] at e
    rw [e]
    simp [dot6, z0, z1, z2, z3, z4, z5]
end Cab
/-! MLnk2 -/
set_option Elab.async false
set_option linter.all false
set_option maxRecDepth 100000
set_option maxHeartbeats 4000000
/-! Tables and mixtures of corners. -/
namespace Cab
open Tab Det Term
/-- 12 times the shares of a mixture -/
def mixA (x : Nat → Int) (h : Int) : List Int :=
  [12 * h, 12 * (h - x 0) + 6 * x 0, 6 * x 0, 12 * (h - (x 1 + x 2)) + (6 * x 1 + 4 * x 2), 6 * x 1 + 4 * x 2, 4 * x 2,
    12 * (h - (x 3 + x 4 + x 5)) + (6 * x 3 + (4 * x 4 + 3 * x 5)), 6 * x 3 + (4 * x 4 + 3 * x 5), 4 * x 4 + 3 * x 5, 3 * x 5]
def dotL : List Int → List Int → Int
  | f :: fs, a :: as => f * a + dotL fs as
  | _, _ => 0
theorem dotL_mul (c : Int) : ∀ (fs as : List Int), dotL fs (as.map fun a => c * a) = c * dotL fs as
  | [], as => by simp [dotL]
  | f :: fs, [] => by simp [dotL]
  | f :: fs, a :: as => by
    simp only [List.map_cons, dotL]
    rw [dotL_mul c fs as]
    grind
theorem alg {f : Frm} (hf : f.fac.length = 10) (x : Nat → Int) (h : Int) : f.num * (12 * h) + dotL f.fac (mixA x h) = dot6 (rowOf f) x + (rowOf f).getD 6 0 * h := by
  obtain ⟨num, fac⟩ := f
  obtain ⟨f0, f1, f2, f3, f4, f5, f6, f7, f8, f9, e⟩ := list10 hf
  have e : fac = [f0, f1, f2, f3, f4, f5, f6, f7, f8, f9] := e
  subst e
  have er : rowOf ⟨num, [f0, f1, f2, f3, f4, f5, f6, f7, f8, f9]⟩ = [(f1 + (f2 + 0)) * 6 - (f1 + 0) * 12, (f3 + (f4 + 0)) * 6 - (f3 + 0) * 12, (f3 + (f4 + (f5 + 0))) * 4 - (f3 + 0) * 12, (f6 + (f7 + 0)) * 6 - (f6 + 0) * 12, (f6 + (f7 + (f8 + 0))) * 4 - (f6 + 0) * 12, (f6 + (f7 + (f8 + (f9 + 0)))) * 3 - (f6 + 0) * 12,
      12 * num + ((f0 + 0) * 12 + ((f1 + 0) * 12 + ((f3 + 0) * 12 + ((f6 + 0) * 12 + 0))))] := by rfl
  rw [er]
  simp only [dot6, mixA, dotL, List.getD_cons_zero, List.getD_cons_succ]
  generalize x 0 = x0; generalize x 1 = x1; generalize x 2 = x2; generalize x 3 = x3; generalize x 4 = x4; generalize x 5 = x5
  grind
/-- a row of shares: falling, not below 0, 1 together -/
def TblOk (t : List (List Rat)) : Prop := ∃ a b1 b2 c1 c2 c3 d1 d2 d3 d4 : Rat, t = [[a], [b1, b2], [c1, c2, c3], [d1, d2, d3, d4]] ∧ a = 1 ∧ (0 ≤ b2 ∧ b2 ≤ b1 ∧ b1 + b2 = 1) ∧ (0 ≤ c3 ∧ c3 ≤ c2 ∧ c2 ≤ c1 ∧ c1 + c2 + c3 = 1) ∧ (0 ≤ d4 ∧ d4 ≤ d3 ∧ d3 ≤ d2 ∧ d2 ≤ d1 ∧ d1 + d2 + d3 + d4 = 1)
/-- a form's worth for a table -/
def wrt (f : Frm) (t : List (List Rat)) : Rat := (f.fac.zip t.flatten).foldl (fun s p => s + (p.1 : Rat) * p.2) (f.num : Rat)
def tblOf (N : Int) (a : List Int) : List (List Rat) := [[Rat.divInt (a.getD 0 0) N], [Rat.divInt (a.getD 1 0) N, Rat.divInt (a.getD 2 0) N], [Rat.divInt (a.getD 3 0) N, Rat.divInt (a.getD 4 0) N, Rat.divInt (a.getD 5 0) N], [Rat.divInt (a.getD 6 0) N, Rat.divInt (a.getD 7 0) N, Rat.divInt (a.getD 8 0) N, Rat.divInt (a.getD 9 0) N]]
theorem castne {N : Int} (h : 0 < N) : (N : Rat) ≠ 0 := by
  intro e
  have : N = 0 := by exact_mod_cast e
  omega
theorem castpos {N : Int} (h : 0 < N) : (0 : Rat) < (N : Rat) := by exact_mod_cast h
theorem wrt_tblOf {f : Frm} (hf : f.fac.length = 10) {N : Int} (hN : 0 < N) {a : List Int} (ha : a.length = 10) : wrt f (tblOf N a) * (N : Rat) = ((f.num * N + dotL f.fac a : Int) : Rat) := by
  obtain ⟨num, fac⟩ := f
  obtain ⟨f0, f1, f2, f3, f4, f5, f6, f7, f8, f9, e⟩ := list10 hf
  have e : fac = [f0, f1, f2, f3, f4, f5, f6, f7, f8, f9] := e
  subst e
  obtain ⟨a0, a1, a2, a3, a4, a5, a6, a7, a8, a9, e⟩ := list10 ha
  subst e
  simp only [wrt, tblOf, List.getD_cons_zero, List.getD_cons_succ, List.flatten_cons, List.flatten_nil, List.cons_append, List.nil_append, List.append_nil, List.zip_cons_cons, List.zip_nil_left, List.foldl_cons, List.foldl_nil, Rat.divInt_eq_div, dotL]
  have hne := castne hN
  push_cast
  generalize (N : Rat) = n at *
  have inv : n⁻¹ * n = 1 := Rat.inv_mul_cancel _ hne
  simp only [Rat.div_def]
  grind
end Cab
/-! MLnk3 -/
set_option Elab.async false
set_option linter.all false
set_option maxRecDepth 100000
set_option maxHeartbeats 4000000
/-! Tables that keep the rooms and solutions of the first board. -/
namespace Cab
open Tab Det Term
theorem div_le {a b N : Int} (h : 0 < N) (e : a ≤ b) : (a : Rat) / (N : Rat) ≤ (b : Rat) / (N : Rat) := by
  have := castpos h
  have e' : (a : Rat) ≤ (b : Rat) := by exact_mod_cast e
  rw [Rat.div_def, Rat.div_def]
  exact Rat.mul_le_mul_of_nonneg_right e' (Rat.le_of_lt (Rat.inv_pos.mpr this))
theorem div_nn {a N : Int} (h : 0 < N) (e : 0 ≤ a) : 0 ≤ (a : Rat) / (N : Rat) := by
  have := div_le h e
  rw [show (((0 : Int) : Rat)) / (N : Rat) = 0 by simp [Rat.div_def]] at this
  exact this
theorem div_self' {N : Int} (h : 0 < N) : (N : Rat) / (N : Rat) = 1 := by
  rw [Rat.div_def]; exact Rat.mul_inv_cancel _ (castne h)
/-- tables of whole shares -/
structure ITbl (N : Int) (a : List Int) : Prop where
  pos : 0 < N
  len : a.length = 10
  r1 : a.getD 0 0 = N
  r2 : 0 ≤ a.getD 2 0 ∧ a.getD 2 0 ≤ a.getD 1 0 ∧ a.getD 1 0 + a.getD 2 0 = N
  r3 : 0 ≤ a.getD 5 0 ∧ a.getD 5 0 ≤ a.getD 4 0 ∧ a.getD 4 0 ≤ a.getD 3 0 ∧ a.getD 3 0 + a.getD 4 0 + a.getD 5 0 = N
  r4 : 0 ≤ a.getD 9 0 ∧ a.getD 9 0 ≤ a.getD 8 0 ∧ a.getD 8 0 ≤ a.getD 7 0 ∧ a.getD 7 0 ≤ a.getD 6 0 ∧ a.getD 6 0 + a.getD 7 0 + a.getD 8 0 + a.getD 9 0 = N
theorem ITbl.ok {N : Int} {a : List Int} (I : ITbl N a) : TblOk (tblOf N a) := by
  have hN := I.pos
  have hne := castne hN
  refine ⟨_, _, _, _, _, _, _, _, _, _, rfl, ?_, ⟨?_, ?_, ?_⟩, ⟨?_, ?_, ?_, ?_⟩, ?_, ?_, ?_, ?_, ?_⟩
  all_goals simp only [Rat.divInt_eq_div]
  · rw [I.r1]; exact div_self' hN
  · exact div_nn hN I.r2.1
  · exact div_le hN I.r2.2.1
  · rw [← div_self' hN, ← I.r2.2.2]; push_cast; simp only [Rat.div_def]; grind
  · exact div_nn hN I.r3.1
  · exact div_le hN I.r3.2.1
  · exact div_le hN I.r3.2.2.1
  · rw [← div_self' hN, ← I.r3.2.2.2]; push_cast; simp only [Rat.div_def]; grind
  · exact div_nn hN I.r4.1
  · exact div_le hN I.r4.2.1
  · exact div_le hN I.r4.2.2.1
  · exact div_le hN I.r4.2.2.2.1
  · rw [← div_self' hN, ← I.r4.2.2.2.2]; push_cast; simp only [Rat.div_def]; grind
/-- a common bottom -/
theorem common_bottom : ∀ l : List Rat, ∃ N : Int, 0 < N ∧ ∀ s ∈ l, ∃ a : Int, s = Rat.divInt a N
  | [] => ⟨1, by decide, fun s h => by cases h⟩
  | s :: l => by
    obtain ⟨N, hN, h⟩ := common_bottom l
    have hd : 0 < (s.den : Int) := by have := s.den_pos; omega
    refine ⟨s.den * N, Int.mul_pos hd hN, fun r hr => ?_⟩
    rcases List.mem_cons.mp hr with e | hr
    · subst e
      refine ⟨r.num * N, ?_⟩
      rw [Rat.divInt_eq_div, Rat.intCast_mul, Rat.intCast_mul]
      have h1 : r = (r.num : Rat) / ((r.den : Int) : Rat) := by
        rw [← Rat.divInt_eq_div]; exact (Rat.num_divInt_den r).symm
      have hne := castne hN
      have hdn := castne hd
      conv => lhs; rw [h1]
      generalize ((r.den : Int) : Rat) = dd at *
      generalize (N : Rat) = n at *
      have i1 : n * n⁻¹ = 1 := Rat.mul_inv_cancel _ hne
      rw [Rat.div_def, Rat.div_def, Rat.inv_mul_rev]
      grind
    · obtain ⟨a, ha⟩ := h r hr
      refine ⟨s.den * a, ?_⟩
      rw [ha, Rat.divInt_eq_div, Rat.divInt_eq_div, Rat.intCast_mul, Rat.intCast_mul]
      have hne := castne hN
      have hdn := castne hd
      generalize ((s.den : Int) : Rat) = dd at *
      generalize (N : Rat) = n at *
      have i1 : dd * dd⁻¹ = 1 := Rat.mul_inv_cancel _ hdn
      rw [Rat.div_def, Rat.div_def, Rat.inv_mul_rev]
      grind
theorem le_of_div {a b N : Int} (h : 0 < N) (e : (a : Rat) / (N : Rat) ≤ (b : Rat) / (N : Rat)) : a ≤ b := by
  by_cases z : b < a
  · exfalso
    have e1 : (b : Rat) < (a : Rat) := by exact_mod_cast z
    have ip := Rat.inv_pos.mpr (castpos h)
    rw [Rat.div_def, Rat.div_def] at e
    have e2 := Rat.mul_lt_mul_of_pos_right e1 ip
    exact (Rat.not_le.mpr e2) e
  · omega
theorem eq_of_div {a b N : Int} (h : 0 < N) (e : (a : Rat) / (N : Rat) = (b : Rat) / (N : Rat)) : a = b :=
  Int.le_antisymm (le_of_div h (by rw [e]; exact Rat.le_refl)) (le_of_div h (by rw [e]; exact Rat.le_refl))
theorem TblOk.ints {t : List (List Rat)} (h : TblOk t) : ∃ N a, ITbl N a ∧ t = tblOf N a := by
  obtain ⟨a, b1, b2, c1, c2, c3, d1, d2, d3, d4, rfl, ha, hb, hc, hd⟩ := h
  obtain ⟨N, hN, hs⟩ := common_bottom [a, b1, b2, c1, c2, c3, d1, d2, d3, d4]
  obtain ⟨a0, rfl⟩ := hs a (by simp)
  obtain ⟨a1, rfl⟩ := hs b1 (by simp)
  obtain ⟨a2, rfl⟩ := hs b2 (by simp)
  obtain ⟨a3, rfl⟩ := hs c1 (by simp)
  obtain ⟨a4, rfl⟩ := hs c2 (by simp)
  obtain ⟨a5, rfl⟩ := hs c3 (by simp)
  obtain ⟨a6, rfl⟩ := hs d1 (by simp)
  obtain ⟨a7, rfl⟩ := hs d2 (by simp)
  obtain ⟨a8, rfl⟩ := hs d3 (by simp)
  obtain ⟨a9, rfl⟩ := hs d4 (by simp)
  clear hs
  simp only [Rat.divInt_eq_div] at ha hb hc hd
  have nn : ∀ {k : Int}, 0 ≤ (k : Rat) / (N : Rat) → 0 ≤ k := fun {k} e => le_of_div hN (by rw [show (((0 : Int) : Rat)) / (N : Rat) = 0 by simp [Rat.div_def]]; exact e)
  have su : ∀ {k : Int}, (k : Rat) / (N : Rat) = 1 → k = N := fun {k} e => eq_of_div hN (by rw [e, div_self' hN])
  refine ⟨N, [a0, a1, a2, a3, a4, a5, a6, a7, a8, a9], ⟨hN, rfl, su ha, ⟨nn hb.1, le_of_div hN hb.2.1, su ?_⟩, ⟨nn hc.1, le_of_div hN hc.2.1, le_of_div hN hc.2.2.1, su ?_⟩, ⟨nn hd.1, le_of_div hN hd.2.1, le_of_div hN hd.2.2.1, le_of_div hN hd.2.2.2.1, su ?_⟩⟩, rfl⟩
  · rw [← hb.2.2]; simp only [List.getD_cons_zero, List.getD_cons_succ]; push_cast; simp only [Rat.div_def]; grind
  · rw [← hc.2.2.2]; simp only [List.getD_cons_zero, List.getD_cons_succ]; push_cast; simp only [Rat.div_def]; grind
  · rw [← hd.2.2.2.2]; simp only [List.getD_cons_zero, List.getD_cons_succ]; push_cast; simp only [Rat.div_def]; grind
/-- a mixture's table -/
theorem mix_ok {x : Nat → Int} {h : Int} (hh : 0 < h) (hx : ∀ v, v < 6 → 0 ≤ x v) (h0 : x 0 ≤ h) (h1 : x 1 + x 2 ≤ h) (h2 : x 3 + x 4 + x 5 ≤ h) : ITbl (12 * h) (mixA x h) := by
  have p0 := hx 0 (by omega); have p1 := hx 1 (by omega); have p2 := hx 2 (by omega); have p3 := hx 3 (by omega); have p4 := hx 4 (by omega); have p5 := hx 5 (by omega)
  refine ⟨by omega, rfl, rfl, ?_, ?_, ?_⟩ <;> simp only [mixA, List.getD_cons_zero, List.getD_cons_succ] <;> omega
/-- the mixture of a table -/
def xOf (a : List Int) : Nat → Int
  | 0 => 2 * a.getD 2 0
  | 1 => 2 * (a.getD 4 0 - a.getD 5 0)
  | 2 => 3 * a.getD 5 0
  | 3 => 2 * (a.getD 7 0 - a.getD 8 0)
  | 4 => 3 * (a.getD 8 0 - a.getD 9 0)
  | 5 => 4 * a.getD 9 0
  | _ => 0
theorem mix_xOf {N : Int} {a : List Int} (I : ITbl N a) : mixA (xOf a) N = a.map fun e => 12 * e := by
  obtain ⟨a0, a1, a2, a3, a4, a5, a6, a7, a8, a9, e⟩ := list10 I.len
  obtain ⟨_, _, r1, r2, r3, r4⟩ := I
  subst e
  simp only [List.getD_cons_zero, List.getD_cons_succ] at r1 r2 r3 r4
  simp only [mixA, xOf, List.getD_cons_zero, List.getD_cons_succ, List.map_cons, List.map_nil]
  have e0 : 12 * N = 12 * a0 := by omega
  have e1 : 12 * (N - 2 * a2) + 6 * (2 * a2) = 12 * a1 := by omega
  have e2 : 6 * (2 * a2) = 12 * a2 := by omega
  have e3 : 12 * (N - (2 * (a4 - a5) + 3 * a5)) + (6 * (2 * (a4 - a5)) + 4 * (3 * a5)) = 12 * a3 := by omega
  have e4 : 6 * (2 * (a4 - a5)) + 4 * (3 * a5) = 12 * a4 := by omega
  have e5 : 4 * (3 * a5) = 12 * a5 := by omega
  have e6 : 12 * (N - (2 * (a7 - a8) + 3 * (a8 - a9) + 4 * a9)) + (6 * (2 * (a7 - a8)) + (4 * (3 * (a8 - a9)) + 3 * (4 * a9))) = 12 * a6 := by omega
  have e7 : 6 * (2 * (a7 - a8)) + (4 * (3 * (a8 - a9)) + 3 * (4 * a9)) = 12 * a7 := by omega
  have e8 : 4 * (3 * (a8 - a9)) + 3 * (4 * a9) = 12 * a8 := by omega
  have e9 : 3 * (4 * a9) = 12 * a9 := by omega
  rw [e0, e1, e2, e3, e4, e5, e6, e7, e8, e9]
/-- all forms are not below 0 -/
def Keep (fs : List Frm) (t : List (List Rat)) : Prop := ∀ f ∈ fs, 0 ≤ wrt f t
theorem nn_of_mul {r : Rat} {N k : Int} (hN : 0 < N) (e : r * (N : Rat) = (k : Rat)) : 0 ≤ r ↔ 0 ≤ k := by
  have hp := castpos hN
  constructor
  · intro h
    have := Rat.mul_nonneg h (Rat.le_of_lt hp)
    rw [e] at this
    exact_mod_cast this
  · intro h
    have h' : (0 : Rat) ≤ (k : Rat) := by exact_mod_cast h
    have er : r = (k : Rat) / (N : Rat) := by
      rw [← e, Rat.div_def, Rat.mul_assoc, Rat.mul_inv_cancel _ (castne hN), Rat.mul_one]
    rw [er]; exact div_nn hN h
section
variable {fs : List Frm} {a : Frm}
/-- from a table to a solution -/
theorem to_x (hfs : ∀ f ∈ fs, f.fac.length = 10) (ha : a.fac.length = 10) {t : List (List Rat)} (ht : TblOk t) (hk : Keep fs t) :
    ∃ (x : Nat → Int) (h : Int), 0 < h ∧ (∀ v, v < 6 + (3 + fs.length) → 0 ≤ x v) ∧ Sol 6 (3 + fs.length) (tbOf 6 (3 + fs.length) (iniB fs a)) x h ∧ wrt a t * ((12 * h : Int) : Rat) = ((x (6 + (3 + fs.length)) + (iniB fs a).base * h : Int) : Rat) := by
  obtain ⟨N, b, I, rfl⟩ := ht.ints
  have am : ∀ f : Frm, f.fac.length = 10 → dot6 (rowOf f) (xOf b) + (rowOf f).getD 6 0 * N = 12 * (f.num * N + dotL f.fac b) := fun f hf => by
    rw [← alg hf, mix_xOf I, dotL_mul]; grind
  let y : Nat → Int := fun v => if v < 6 then xOf b v else if v = 6 then N - xOf b 0 else if v = 7 then N - (xOf b 1 + xOf b 2) else if v = 8 then N - (xOf b 3 + xOf b 4 + xOf b 5) else if h : v - 9 < fs.length then dot6 (rowOf fs[v - 9]) (xOf b) + (rowOf fs[v - 9]).getD 6 0 * N else dot6 (rowOf a) (xOf b)
  have yd : ∀ r, dot6 r y = dot6 r (xOf b) := fun r => rfl
  have yr : ∀ k (hk : k < fs.length), y (9 + k) = dot6 (rowOf fs[k]) (xOf b) + (rowOf fs[k]).getD 6 0 * N := fun k hk => by
    show (if 9 + k < 6 then _ else if 9 + k = 6 then _ else if 9 + k = 7 then _ else if 9 + k = 8 then _ else if h : 9 + k - 9 < fs.length then _ else _) = _
    have e : 9 + k - 9 = k := by omega
    rw [if_neg (by omega), if_neg (by omega), if_neg (by omega), if_neg (by omega), dif_pos (by omega)]
    simp only [e]
  have ya : y (6 + (3 + fs.length)) = dot6 (rowOf a) (xOf b) := by
    show (if 6 + (3 + fs.length) < 6 then _ else if 6 + (3 + fs.length) = 6 then _ else if 6 + (3 + fs.length) = 7 then _ else if 6 + (3 + fs.length) = 8 then _ else if h : 6 + (3 + fs.length) - 9 < fs.length then _ else _) = _
    rw [if_neg (by omega), if_neg (by omega), if_neg (by omega), if_neg (by omega), dif_neg (by omega)]
  have hX : Sol 6 (3 + fs.length) (tbOf 6 (3 + fs.length) (iniB fs a)) y N := ini_sol' rfl rfl rfl (fun k hk => by rw [yr k hk, yd]) (by rw [ya, yd])
  refine ⟨y, N, I.pos, fun v hv => ?_, hX, ?_⟩
  · have r2 := I.r2; have r3 := I.r3; have r4 := I.r4
    by_cases h9 : v < 9
    · have : v = 0 ∨ v = 1 ∨ v = 2 ∨ v = 3 ∨ v = 4 ∨ v = 5 ∨ v = 6 ∨ v = 7 ∨ v = 8 := by omega
      rcases this with e | e | e | e | e | e | e | e | e
      · subst e; show 0 ≤ xOf b 0; simp only [xOf]; omega
      · subst e; show 0 ≤ xOf b 1; simp only [xOf]; omega
      · subst e; show 0 ≤ xOf b 2; simp only [xOf]; omega
      · subst e; show 0 ≤ xOf b 3; simp only [xOf]; omega
      · subst e; show 0 ≤ xOf b 4; simp only [xOf]; omega
      · subst e; show 0 ≤ xOf b 5; simp only [xOf]; omega
      · subst e; show 0 ≤ N - xOf b 0; simp only [xOf]; omega
      · subst e; show 0 ≤ N - (xOf b 1 + xOf b 2); simp only [xOf]; omega
      · subst e; show 0 ≤ N - (xOf b 3 + xOf b 4 + xOf b 5); simp only [xOf]; omega
    · have hk9 : v - 9 < fs.length := by omega
      have e := yr (v - 9) hk9
      rw [show 9 + (v - 9) = v by omega] at e
      rw [e, am _ (hfs _ (List.getElem_mem hk9))]
      have := (nn_of_mul I.pos (wrt_tblOf (hfs _ (List.getElem_mem hk9)) I.pos I.len)).mp (hk _ (List.getElem_mem hk9))
      omega
  · have e1 : y (6 + (3 + fs.length)) + (iniB fs a).base * N = 12 * (a.num * N + dotL a.fac b) := by
      rw [ya]; exact am a ha
    rw [e1]
    have e2 := wrt_tblOf ha I.pos I.len
    push_cast at e2 ⊢
    rw [← e2]; grind
/-- from a solution to a table -/
theorem of_x (hfs : ∀ f ∈ fs, f.fac.length = 10) (ha : a.fac.length = 10) {x : Nat → Int} {h : Int} (hh : 0 < h) (hx : ∀ v, v < 6 + (3 + fs.length) → 0 ≤ x v) (X : Sol 6 (3 + fs.length) (tbOf 6 (3 + fs.length) (iniB fs a)) x h) :
    TblOk (tblOf (12 * h) (mixA x h)) ∧ Keep fs (tblOf (12 * h) (mixA x h)) ∧ wrt a (tblOf (12 * h) (mixA x h)) * ((12 * h : Int) : Rat) = ((x (6 + (3 + fs.length)) + (iniB fs a).base * h : Int) : Rat) := by
  obtain ⟨e6, e7, e8, er, ea⟩ := ini_sol X
  have q6 := hx 6 (by omega); have q7 := hx 7 (by omega); have q8 := hx 8 (by omega)
  have I : ITbl (12 * h) (mixA x h) := mix_ok hh (fun v hv => hx v (by omega)) (by omega) (by omega) (by omega)
  refine ⟨I.ok, fun f hf => ?_, ?_⟩
  · obtain ⟨k, hk, rfl⟩ := List.getElem_of_mem hf
    refine (nn_of_mul I.pos (wrt_tblOf (hfs _ hf) I.pos I.len)).mpr ?_
    rw [alg (hfs _ hf), ← er k hk]
    exact hx _ (by omega)
  · rw [wrt_tblOf ha I.pos I.len, alg ha, ← ea]; rfl
/-- the ends: nothing fits, or the greatest -/
theorem end_none {S : Tb} {φ : Nat → Nat → Int} {p : Nat} (hfs : ∀ f ∈ fs, f.fac.length = 10) (ha : a.fac.length = 10) (Kp : Kept 6 (3 + fs.length) (tbOf 6 (3 + fs.length) (iniB fs a)) S φ) (hp : p < 3 + fs.length) (low : S.T p 6 < 0) (row : ∀ j, j < 6 → 0 ≤ S.T p j) {t : List (List Rat)} (ht : TblOk t) (hk : Keep fs t) : False := by
  obtain ⟨x, h, hh, hx, X, _⟩ := to_x (a := a) hfs ha ht hk
  exact no_feas Kp.vars Kp.good.hd hp low row hh hx ((Kp.sol x h).mp X)
theorem end_best {S : Tb} {φ : Nat → Nat → Int} (hfs : ∀ f ∈ fs, f.fac.length = 10) (ha : a.fac.length = 10) (Kp : Kept 6 (3 + fs.length) (tbOf 6 (3 + fs.length) (iniB fs a)) S φ) (F : Feas 6 (3 + fs.length) S) (row : ∀ j, j < 6 → 0 ≤ S.T (3 + fs.length) j) :
    ∃ x : Nat → Int, (∀ j, j < 6 → x (S.ab j) = 0) ∧ (∀ i, i ≤ 3 + fs.length → x (S.as i) = S.T i 6) ∧ TblOk (tblOf (12 * S.d) (mixA x S.d)) ∧ Keep fs (tblOf (12 * S.d) (mixA x S.d)) ∧
      wrt a (tblOf (12 * S.d) (mixA x S.d)) = Rat.divInt (S.T (3 + fs.length) 6 + S.d * (iniB fs a).base) (12 * S.d) ∧ ∀ t, TblOk t → Keep fs t → wrt a t ≤ Rat.divInt (S.T (3 + fs.length) 6 + S.d * (iniB fs a).base) (12 * S.d) := by
  have hd : 0 < S.d := Kp.good.hd
  obtain ⟨x, hx, hab, has, X⟩ := base_nn Kp.vars F
  obtain ⟨t1, t2, t3⟩ := of_x hfs ha hd hx ((Kp.sol x S.d).mpr X)
  have eM : x (6 + (3 + fs.length)) = S.T (3 + fs.length) 6 := by
    have := has (3 + fs.length) (Nat.le_refl _)
    rwa [Kp.vars.aim] at this
  rw [eM, Int.mul_comm (iniB fs a).base] at t3
  refine ⟨x, hab, has, t1, t2, ?_, fun t ht hk => ?_⟩
  · rw [Rat.divInt_eq_div, ← t3, Rat.div_def, Rat.mul_assoc, Rat.mul_inv_cancel _ (castne (by omega)), Rat.mul_one]
  · obtain ⟨y, h, hh, hy, Y, ey⟩ := to_x (a := a) hfs ha ht hk
    have le := best_le Kp.vars row hy ((Kp.sol y h).mp Y)
    have hp : (0 : Rat) < ((12 * S.d * h : Int) : Rat) := castpos (Int.mul_pos (by omega) hh)
    rw [Rat.divInt_eq_div]
    have e1 : wrt a t * ((12 * S.d * h : Int) : Rat) = ((S.d * (y (6 + (3 + fs.length)) + (iniB fs a).base * h) : Int) : Rat) := by
      push_cast at ey ⊢
      rw [← ey]; grind
    have e2 : ((S.T (3 + fs.length) 6 + S.d * (iniB fs a).base : Int) : Rat) / ((12 * S.d : Int) : Rat) * ((12 * S.d * h : Int) : Rat) = (((S.T (3 + fs.length) 6 + S.d * (iniB fs a).base) * h : Int) : Rat) := by
      have i1 := Rat.mul_inv_cancel _ (castne (show 0 < 12 * S.d by omega))
      push_cast at i1 ⊢
      rw [Rat.div_def]
      grind
    refine Rat.le_of_mul_le_mul_right ?_ hp
    rw [e1, e2]
    have : S.d * (y (6 + (3 + fs.length)) + (iniB fs a).base * h) ≤ (S.T (3 + fs.length) 6 + S.d * (iniB fs a).base) * h := by grind
    exact_mod_cast this
end
end Cab
/-! W4a -/
set_option Elab.async false
set_option linter.all false
set_option maxRecDepth 100000
set_option maxHeartbeats 4000000
namespace Cab
open PySem PySem.Spec PyProof.Rows L2 DL
local macro_rules | `(tactic| walk_at "d") => `(tactic| first
  | with_reducible refine dx_seq ?_ | with_reducible refine dx_ret ?_ | with_reducible refine dx_asg ?_ | ((with_reducible refine dg_name ?_); dsimp only [List.set])
  | with_reducible refine de_op ?_ | ((with_reducible refine' de_var ?h1 ?_); (case h1 => exact rfl)) | with_reducible refine de_int ?_ | with_reducible refine da_cons ?_ | with_reducible refine da_nil ?_
  | ((with_reducible refine' dr_xT ?h1 ?_); (case h1 => exact rfl)) | ((with_reducible refine' dr_xL ?h1 ?_); (case h1 => exact rfl)) | with_reducible refine dr_I0 ?_ | with_reducible refine dr_I0b ?_ | with_reducible refine de_callP ?_ | with_reducible refine de_callA ?_
  | with_reducible refine de_cb ?_ | with_reducible refine de_un ?_ | with_reducible refine du_I ?_ | with_reducible refine de_bl ?_ | with_reducible refine de_non ?_ | with_reducible refine de_str ?_ | with_reducible refine de_ty ?_
  | with_reducible refine dr_eqI ?_ | with_reducible refine dr_neI ?_ | with_reducible refine dr_eqS ?_ | with_reducible refine dr_isN ?_ | with_reducible refine dr_notN ?_
  | with_reducible refine dt_and ?_ | with_reducible refine dt_or ?_ | with_reducible refine dt_not ?_ | with_reducible refine de_if ?_ | with_reducible refine de_andV ?_ | with_reducible refine de_orV ?_ | with_reducible refine de_notV ?_
  | ((with_reducible refine dt_test ?_)) | ((with_reducible refine dt_B ?_))
  | with_reducible refine dx_par' ?_ | with_reducible refine dx_par3' ?_ | with_reducible refine ex_bl ?_ | with_reducible refine ex_int ?_ | with_reducible refine isi_int ?_ | with_reducible refine isi_intB ?_ | with_reducible refine isi_tup ?_ | with_reducible refine isi_tupS ?_ | with_reducible refine isi_str ?_ | with_reducible refine de_chain ?_ | with_reducible refine dt_chain ?_ | with_reducible refine iteT ?_ | with_reducible refine iteF ?_ | with_reducible refine dx_if ?_ | with_reducible refine dx_drop ?_ | with_reducible refine dx_cont ?_ | with_reducible refine dx_next ?_
  | with_reducible refine dc_abs ?_ | with_reducible refine dc_lenT ?_ | with_reducible refine dc_lenL ?_ | with_reducible refine dc_int ?_ | with_reducible refine dc_max2 ?_ | with_reducible refine dc_min2 ?_ | with_reducible refine dc_tupL ?_
  | with_reducible refine de_fldF ?_ ?_ ?_ | with_reducible refine de_tup ?_ | ((with_reducible refine len_ok ?h1 ?_); (case h1 => exact rfl))
  | ((with_reducible refine iteT' ?h1 ?_); (case h1 => rfl)) | ((with_reducible refine iteF' ?h1 ?_); (case h1 => rfl))
  | with_reducible refine ex_int2 ?_ | ((with_reducible refine' dg_tup ?h1 ?_); (case h1 => rfl)) | with_reducible refine dgs_cons ?_ | with_reducible refine dgs_nil ?_ | with_reducible refine dc_lenX ?_ | with_reducible refine dr_inX ?_
  | dsimp only [List.set])
/-- a comprehension's targets -/
local macro_rules | `(tactic| walk_at "w") => `(tactic| repeat first
  | exact wp_name (by simp) | exact mo_name | exact wps_nil | exact mos_nil
  | refine wp_tup ?_ | refine wps_cons ?_ ?_ ?_ ?_ | refine mo_tup ?_ | refine mos_cons ?_ ?_)
/-- ends that are told by a value: a bool, a pair -/
local macro_rules | `(tactic| walk_at "e") => `(tactic| first
  | walk_at "d"
  | ((with_reducible refine Exists.intro _ (And.intro rfl ?_))))
section
variable {P : Program} {w : World} {K : PySem.W.Frag} {mg : Str → Option Value} {base : Heap}
open Tab
/-! ### the board -/
def brow (r : List Int) : Ow := .lst (r.map Dt.int)
def bfs (B : Bd) (a1 a2 a3 : Addr) : List (Str × Dt) := [("bottom", .int B.bottom), ("above", .ptr a1), ("rows", .ptr a2), ("aside", .ptr a3), ("base", .int B.base)]
structure BO (K : PySem.W.Frag) (ow : Own) (a a1 a2 a3 : Addr) (rs : List Addr) (B : Bd) : Prop where
  self : ow a = some (.ins (He.ga K "Board") (bfs B a1 a2 a3))
  above : ow a1 = some (brow B.above)
  rows : ow a2 = some (.lst (rs.map Dt.ptr))
  aside : ow a3 = some (brow B.aside)
  row : ∀ (i : Nat) (h : i < rs.length), ow rs[i] = some (brow (B.rows.getD i []))
  len : rs.length = B.rows.length
  nd : (a :: a1 :: a2 :: a3 :: rs).Nodup
section
variable {b : Bs} {te : TE} {d : DL.St} {Q : Dt → DL.St → Prop}
theorem fldB_bottom (T : Txt K mg base) (h : DE K b te d fun x d1 => ∃ a a1 a2 a3 rs B, x = .ptr a ∧ BO K d1.own a a1 a2 a3 rs B ∧ Q (.int B.bottom) d1) : DE K b (tFld K te "bottom") d Q :=
  de_fldO (T.cls "Board" (by decide +kernel)).1 (T.noat "Board" "bottom" (by decide +kernel)) fun F σ H R P kk => h F σ H R P fun v H' F' x d' s R' r ⟨a, a1, a2, a3, rs, B, e, O, q⟩ => kk v H' F' x d' s R' r ⟨a, _, _, e, O.self, by rfl, q⟩
theorem fldB_above (T : Txt K mg base) (h : DE K b te d fun x d1 => ∃ a a1 a2 a3 rs B, x = .ptr a ∧ BO K d1.own a a1 a2 a3 rs B ∧ Q (.ptr a1) d1) : DE K b (tFld K te "above") d Q :=
  de_fldO (T.cls "Board" (by decide +kernel)).1 (T.noat "Board" "above" (by decide +kernel)) fun F σ H R P kk => h F σ H R P fun v H' F' x d' s R' r ⟨a, a1, a2, a3, rs, B, e, O, q⟩ => kk v H' F' x d' s R' r ⟨a, _, _, e, O.self, by rfl, q⟩
theorem fldB_rows (T : Txt K mg base) (h : DE K b te d fun x d1 => ∃ a a1 a2 a3 rs B, x = .ptr a ∧ BO K d1.own a a1 a2 a3 rs B ∧ Q (.ptr a2) d1) : DE K b (tFld K te "rows") d Q :=
  de_fldO (T.cls "Board" (by decide +kernel)).1 (T.noat "Board" "rows" (by decide +kernel)) fun F σ H R P kk => h F σ H R P fun v H' F' x d' s R' r ⟨a, a1, a2, a3, rs, B, e, O, q⟩ => kk v H' F' x d' s R' r ⟨a, _, _, e, O.self, by rfl, q⟩
theorem fldB_aside (T : Txt K mg base) (h : DE K b te d fun x d1 => ∃ a a1 a2 a3 rs B, x = .ptr a ∧ BO K d1.own a a1 a2 a3 rs B ∧ Q (.ptr a3) d1) : DE K b (tFld K te "aside") d Q :=
  de_fldO (T.cls "Board" (by decide +kernel)).1 (T.noat "Board" "aside" (by decide +kernel)) fun F σ H R P kk => h F σ H R P fun v H' F' x d' s R' r ⟨a, a1, a2, a3, rs, B, e, O, q⟩ => kk v H' F' x d' s R' r ⟨a, _, _, e, O.self, by rfl, q⟩
theorem fldB_base (T : Txt K mg base) (h : DE K b te d fun x d1 => ∃ a a1 a2 a3 rs B, x = .ptr a ∧ BO K d1.own a a1 a2 a3 rs B ∧ Q (.int B.base) d1) : DE K b (tFld K te "base") d Q :=
  de_fldO (T.cls "Board" (by decide +kernel)).1 (T.noat "Board" "base" (by decide +kernel)) fun F σ H R P kk => h F σ H R P fun v H' F' x d' s R' r ⟨a, a1, a2, a3, rs, B, e, O, q⟩ => kk v H' F' x d' s R' r ⟨a, _, _, e, O.self, by rfl, q⟩
theorem atI_nat {α : Type} {xs : List α} {n : Nat} (h : n < xs.length) : atI xs ((n : Nat) : Int) = some xs[n] := by
  unfold atI
  have : ixN xs.length ((n : Nat) : Int) = some n := by unfold ixN; rw [if_pos (by omega), if_pos (by omega)]; simp
  rw [this]
  exact List.getElem?_eq_getElem h
theorem atI_last {α : Type} {xs : List α} {n : Nat} (h : xs.length = n + 1) : atI xs (-1) = some (xs[n]'(by omega)) := by
  unfold atI
  have : ixN xs.length (-1) = some n := by
    unfold ixN
    rw [if_neg (by omega), h]
    first
      | (rw [if_pos (by omega)]; simp; try omega)
      | (simp; try omega)
  rw [this]
  exact List.getElem?_eq_getElem (by omega)
/-- an entry of a list of ints -/
theorem dr_ints {a : Addr} {xs : List Int} {n : Nat} (ho : d.own a = some (brow xs)) (h : n < xs.length) (q : Q (.int (xs.getD n 0)) d) : DR K b (rIx K) (.ptr a) (.int (n : Nat)) d Q :=
  dr_xO ho (y := .int (xs.getD n 0)) (by rw [atI_nat (by rw [List.length_map]; exact h), List.getElem_map, List.getD_eq_getElem?_getD, List.getElem?_eq_getElem h]; rfl) q
theorem dr_intsL {a : Addr} {xs : List Int} {n : Nat} (ho : d.own a = some (brow xs)) (h : xs.length = n + 1) (q : Q (.int (xs.getD n 0)) d) : DR K b (rIx K) (.ptr a) (.int (-1)) d Q :=
  dr_xO ho (y := .int (xs.getD n 0)) (by rw [atI_last (n := n) (by rw [List.length_map]; exact h), List.getElem_map, List.getD_eq_getElem?_getD, List.getElem?_eq_getElem (by omega)]; rfl) q
theorem dr_rowsO {a a1 a2 a3 : Addr} {rs : List Addr} {B : Bd} {n : Nat} (O : BO K d.own a a1 a2 a3 rs B) (h : n < rs.length) (q : Q (.ptr rs[n]) d) : DR K b (rIx K) (.ptr a2) (.int (n : Nat)) d Q :=
  dr_xO O.rows (y := .ptr rs[n]) (by rw [atI_nat (by rw [List.length_map]; exact h), List.getElem_map]) q
theorem dr_rowsL {a a1 a2 a3 : Addr} {rs : List Addr} {B : Bd} {n : Nat} (O : BO K d.own a a1 a2 a3 rs B) (h : rs.length = n + 1) (q : Q (.ptr (rs[n]'(by omega))) d) : DR K b (rIx K) (.ptr a2) (.int (-1)) d Q :=
  dr_xO O.rows (y := .ptr (rs[n]'(by omega))) (by rw [atI_last (n := n) (by rw [List.length_map]; exact h), List.getElem_map]) q
end
theorem exB {a0 a a1 a2 a3 : Addr} {rs : List Addr} {B : Bd} {ow : Own} {P : Addr → Addr → Addr → Bd → Prop} (e : a0 = a) (O : BO K ow a a1 a2 a3 rs B) (q : P a1 a2 a3 B) : ∃ a a1 a2 a3 rs B, Dt.ptr a0 = .ptr a ∧ BO K ow a a1 a2 a3 rs B ∧ P a1 a2 a3 B := ⟨a, a1, a2, a3, rs, B, by rw [e], O, q⟩
local macro_rules | `(tactic| walk_at "b") => `(tactic| first
  | with_reducible refine fldB_bottom (by assumption) ?_ | with_reducible refine fldB_above (by assumption) ?_ | with_reducible refine fldB_rows (by assumption) ?_ | with_reducible refine fldB_aside (by assumption) ?_ | with_reducible refine fldB_base (by assumption) ?_
  | with_reducible refine ⟨_, _, _, _, _, _, rfl, (by assumption), ?_⟩
  | with_reducible refine de_methA ?_
  | walk_at "d")
def ent (B : Bd) (i j : Nat) : Int := (B.rows.getD i []).getD j 0
def pr_Board_lacking (K : PySem.W.Frag) : Pr := fun ds ob QD => ∃ a a1 a2 a3 rs B M, ds = [.ptr a] ∧ BO K ob a a1 a2 a3 rs B ∧ Shp 6 M B ∧ M ≤ 1000 ∧ ((∀ i, i < M → 0 ≤ ent B i 6) → QD .non ob) ∧
  ∀ p, p < M → ent B p 6 < 0 → (∀ i, i < M → ent B i 6 < 0 → B.aside.getD p 0 ≤ B.aside.getD i 0) → QD (.int (p : Nat)) ob
theorem len_Board_lacking {ds ob Q} (p : pr_Board_lacking K ds ob Q) : ds.length = 1 := by obtain ⟨_, _, _, _, _, _, _, rfl, _⟩ := p; rfl
theorem sc_Board_lacking : FnScope ["self", "below", "place"] ["self"] (defScope (inClass (topS 58) 3)) := ⟨rfl, rfl, rfl, by decide +kernel, rfl, by decide +kernel, by decide +kernel⟩
theorem ok_Board_lacking (T : Txt K mg base) : CalM P w K mg base 1 "Board" "lacking" ["self"] (spD K (pr_Board_lacking K)) := by
  refine cal_mkM T (by decide +kernel) (T.me "Board" "lacking" "Board.lacking" 58 3 (by decide +kernel)) sc_Board_lacking (fun _ _ _ _ _ _ us hl => match us, hl with | [_], _ => rfl) (fun ds ob Q p => len_Board_lacking p) fun cdv A outer s H f E hr =>
    ⟨_, (pss_cons (ps_setLc (i := 1) (own := [("place", 2)]) (g := (gName 2)) rfl sc_Board_lacking.nd rfl rfl (sw_true rfl rfl rfl (by decide +kernel)) (pi_range1 (by rfl) (T.free "range" (by decide +kernel)) (pa_cons (pe_cbK (r := DL.rLen K) call_len' boot_len (T.free "len" (by decide +kernel)) (by rfl) (pa_cons (pe_fldK (K := K) rfl (pv 0)) pa_nil)) pa_nil)) (blkOk_by (own := [("place", 2)]) (N := ["self", "below", "place"]) (sc := (defScope (inClass (topS 58) 3))) (by decide +kernel)) (fun _ _ _ _ _ => (pg_name (i := 2) sc_Board_lacking.nd rfl (Or.inl rfl))) (fun _ _ _ _ _ => (pts_one (pt_cmpR op_lt (pe_ixK (K := K) rfl (pe_ixK (K := K) rfl (pe_fldK (K := K) rfl (pv 0)) (pv 2)) (pe_un un_neg pe_int)) pe_int (nomark _)))) (fun _ _ _ _ _ => (pe_tup (pa_cons (pe_ixK (K := K) rfl (pe_fldK (K := K) rfl (pv 0)) (pv 2)) (pa_cons (pv 2) pa_nil)))))
      (pss_one (ps_ret (pe_ifExp (pt_cmpR op_gt (pe_cbK (r := DL.rLen K) call_len' boot_len (T.free "len" (by decide +kernel)) (by rfl) (pa_cons (pv 1) pa_nil)) pe_int (nomark _)) (pe_ixK (K := K) rfl (pe_cbK (r := rMinPP K) (cr_minPPK (K := K) rfl rfl (hu64 hr)) (by decide +kernel) (T.free "min" (by decide +kernel)) (by rfl) (pa_cons (pv 1) pa_nil)) pe_int) pe_non)))), fun b ds ob Q p => ?_⟩
  obtain ⟨a, a1, a2, a3, rs, B, M, rfl, O, S, hM, q1, q2⟩ := p
  simp only [startD, List.map_nil]
  have hrl : rs.length = M + 1 := by rw [O.len]; exact S.rows
  repeat walk_at "b"
  refine de_lcP (by walk_at "w") (by walk_at "w") ?_
  refine di_rng1 ?_
  repeat walk_at "b"
  refine dc_lenO O.aside ?_
  repeat walk_at "b"
  rw [List.length_map, S.aside]
  refine ⟨(M : Int), rfl, by omega, by omega, by rw [rangeD_len]; omega, fun _ _ => trivial, fun i => decide (ent B i 6 < 0), fun i => DL.pairD (B.aside.getD i 0, (i : Nat)), ?_, ?_⟩
  · intro b i x hx
    obtain ⟨rfl, hi⟩ := rangeD_get hx
    have hi : i < M := by omega
    dsimp only [wipeD, List.map, List.set]
    rw [Int.zero_add]
    repeat walk_at "b"
    refine dr_rowsO O (by omega) ?_
    repeat walk_at "b"
    refine dr_intsL (n := 6) (O.row i (by omega)) (S.row i (by omega)) ?_
    repeat walk_at "b"
    refine ⟨rfl, ?_⟩
    by_cases h : ent B i 6 < 0
    · refine iteT' (decide_eq_true h) ?_
      repeat walk_at "b"
      refine dr_ints O.aside (by rw [S.aside]; omega) ?_
      repeat walk_at "b"
      exact ⟨rfl, rfl⟩
    · exact iteF' (decide_eq_false h) rfl
  · rw [rangeD_len, show ((M : Int)).toNat = M by omega]
    have e : ((List.range M).filter fun i => decide (ent B i 6 < 0)).map (fun i => DL.pairD (B.aside.getD i 0, ((i : Nat) : Int))) = (((List.range M).filter fun i => decide (ent B i 6 < 0)).map fun i => (B.aside.getD i 0, ((i : Nat) : Int))).map DL.pairD := by rw [List.map_map]; rfl
    rw [e]
    generalize hps : ((List.range M).filter fun i => decide (ent B i 6 < 0)).map (fun i => (B.aside.getD i 0, ((i : Nat) : Int))) = ps
    have mem : ∀ p, p ∈ ps ↔ ∃ i, i < M ∧ ent B i 6 < 0 ∧ p = (B.aside.getD i 0, ((i : Nat) : Int)) := fun p => by
      rw [← hps, List.mem_map]
      constructor
      · rintro ⟨i, hi, rfl⟩
        obtain ⟨h1, h2⟩ := List.mem_filter.mp hi
        exact ⟨i, List.mem_range.mp h1, of_decide_eq_true h2, rfl⟩
      · rintro ⟨i, h1, h2, rfl⟩
        exact ⟨i, List.mem_filter.mpr ⟨List.mem_range.mpr h1, decide_eq_true h2⟩, rfl⟩
    repeat walk_at "b"
    by_cases hn : ps = []
    · subst hn
      refine iteF' (by rfl) ?_
      repeat walk_at "b"
      refine endD_all (q1 fun i hi => ?_)
      have : ¬ ent B i 6 < 0 := fun z => by
        have := (mem (B.aside.getD i 0, ((i : Nat) : Int))).mpr ⟨i, hi, z, rfl⟩
        cases this
      omega
    · have hl : 0 < ps.length := List.length_pos_iff.mpr hn
      refine iteT' (by simp; omega) ?_
      repeat walk_at "b"
      refine dc_minPP hn fun p hp hle => ?_
      obtain ⟨i, hi, hlow, rfl⟩ := (mem p).mp hp
      dsimp only [DL.pairD]
      repeat walk_at "b"
      refine endD_all (q2 i hi hlow fun i' hi' low' => ?_)
      exact hle (B.aside.getD i' 0, ((i' : Nat) : Int)) ((mem _).mpr ⟨i', hi', low', rfl⟩)
end
end Cab
/-! W4b -/
set_option Elab.async false
set_option linter.all false
set_option maxRecDepth 100000
set_option maxHeartbeats 4000000
namespace Cab
open PySem PySem.Spec PyProof.Rows L2 DL
local macro_rules | `(tactic| walk_at "d") => `(tactic| first
  | with_reducible refine dx_seq ?_ | with_reducible refine dx_ret ?_ | with_reducible refine dx_asg ?_ | ((with_reducible refine dg_name ?_); dsimp only [List.set])
  | with_reducible refine de_op ?_ | ((with_reducible refine' de_var ?h1 ?_); (case h1 => exact rfl)) | with_reducible refine de_int ?_ | with_reducible refine da_cons ?_ | with_reducible refine da_nil ?_
  | ((with_reducible refine' dr_xT ?h1 ?_); (case h1 => exact rfl)) | ((with_reducible refine' dr_xL ?h1 ?_); (case h1 => exact rfl)) | with_reducible refine dr_I0 ?_ | with_reducible refine dr_I0b ?_ | with_reducible refine de_callP ?_ | with_reducible refine de_callA ?_
  | with_reducible refine de_cb ?_ | with_reducible refine de_un ?_ | with_reducible refine du_I ?_ | with_reducible refine de_bl ?_ | with_reducible refine de_non ?_ | with_reducible refine de_str ?_ | with_reducible refine de_ty ?_
  | with_reducible refine dr_eqI ?_ | with_reducible refine dr_neI ?_ | with_reducible refine dr_eqS ?_ | with_reducible refine dr_isN ?_ | with_reducible refine dr_notN ?_
  | with_reducible refine dt_and ?_ | with_reducible refine dt_or ?_ | with_reducible refine dt_not ?_ | with_reducible refine de_if ?_ | with_reducible refine de_andV ?_ | with_reducible refine de_orV ?_ | with_reducible refine de_notV ?_
  | ((with_reducible refine dt_test ?_)) | ((with_reducible refine dt_B ?_))
  | with_reducible refine dx_par' ?_ | with_reducible refine dx_par3' ?_ | with_reducible refine ex_bl ?_ | with_reducible refine ex_int ?_ | with_reducible refine isi_int ?_ | with_reducible refine isi_intB ?_ | with_reducible refine isi_tup ?_ | with_reducible refine isi_tupS ?_ | with_reducible refine isi_str ?_ | with_reducible refine de_chain ?_ | with_reducible refine dt_chain ?_ | with_reducible refine iteT ?_ | with_reducible refine iteF ?_ | with_reducible refine dx_if ?_ | with_reducible refine dx_drop ?_ | with_reducible refine dx_cont ?_ | with_reducible refine dx_next ?_
  | with_reducible refine dc_abs ?_ | with_reducible refine dc_lenT ?_ | with_reducible refine dc_lenL ?_ | with_reducible refine dc_int ?_ | with_reducible refine dc_max2 ?_ | with_reducible refine dc_min2 ?_ | with_reducible refine dc_tupL ?_
  | with_reducible refine de_fldF ?_ ?_ ?_ | with_reducible refine de_tup ?_ | ((with_reducible refine len_ok ?h1 ?_); (case h1 => exact rfl))
  | ((with_reducible refine iteT' ?h1 ?_); (case h1 => rfl)) | ((with_reducible refine iteF' ?h1 ?_); (case h1 => rfl))
  | with_reducible refine ex_int2 ?_ | ((with_reducible refine' dg_tup ?h1 ?_); (case h1 => rfl)) | with_reducible refine dgs_cons ?_ | with_reducible refine dgs_nil ?_ | with_reducible refine dc_lenX ?_ | with_reducible refine dr_inX ?_
  | dsimp only [List.set])
/-- a comprehension's targets -/
local macro_rules | `(tactic| walk_at "w") => `(tactic| repeat first
  | exact wp_name (by simp) | exact mo_name | exact wps_nil | exact mos_nil
  | refine wp_tup ?_ | refine wps_cons ?_ ?_ ?_ ?_ | refine mo_tup ?_ | refine mos_cons ?_ ?_)
/-- ends that are told by a value: a bool, a pair -/
local macro_rules | `(tactic| walk_at "e") => `(tactic| first
  | walk_at "d"
  | ((with_reducible refine Exists.intro _ (And.intro rfl ?_))))
section
variable {P : Program} {w : World} {K : PySem.W.Frag} {mg : Str → Option Value} {base : Heap}
open Tab
local macro_rules | `(tactic| walk_at "b") => `(tactic| first
  | with_reducible refine fldB_bottom (by assumption) ?_ | with_reducible refine fldB_above (by assumption) ?_ | with_reducible refine fldB_rows (by assumption) ?_ | with_reducible refine fldB_aside (by assumption) ?_ | with_reducible refine fldB_base (by assumption) ?_
  | with_reducible refine ⟨_, _, _, _, _, _, rfl, (by assumption), ?_⟩
  | with_reducible refine de_methA ?_
  | walk_at "d")
/-! ### the board: rows -/
def pr_Board_first_below (K : PySem.W.Frag) : Pr := fun ds ob QD => ∃ a a1 a2 a3 rs B M r row, ds = [.ptr a, .ptr r] ∧ BO K ob a a1 a2 a3 rs B ∧ Shp 6 M B ∧ ob r = some (brow row) ∧ row.length = 7 ∧ ((∀ j, j < 6 → 0 ≤ row.getD j 0) → QD .non ob) ∧
  ∀ q, q < 6 → row.getD q 0 < 0 → (∀ j, j < 6 → row.getD j 0 < 0 → B.above.getD q 0 ≤ B.above.getD j 0) → QD (.int (q : Nat)) ob
theorem len_Board_first_below {ds ob Q} (p : pr_Board_first_below K ds ob Q) : ds.length = 2 := by obtain ⟨_, _, _, _, _, _, _, _, _, rfl, _⟩ := p; rfl
theorem sc_Board_first_below : FnScope ["self", "row", "columns", "column"] ["self", "row"] (defScope (inClass (topS 58) 4)) := ⟨rfl, rfl, rfl, by decide +kernel, rfl, by decide +kernel, by decide +kernel⟩
theorem ok_Board_first_below (T : Txt K mg base) : CalM P w K mg base 1 "Board" "first_below" ["self", "row"] (spD K (pr_Board_first_below K)) := by
  refine cal_mkM T (by decide +kernel) (T.me "Board" "first_below" "Board.first_below" 58 4 (by decide +kernel)) sc_Board_first_below (fun _ _ _ _ _ _ us hl => match us, hl with | [_, _], _ => rfl) (fun ds ob Q p => len_Board_first_below p) fun cdv A outer s H f E hr =>
    ⟨_, (pss_cons (ps_setLc (i := 2) (own := [("column", 3)]) (g := (gName 3)) rfl sc_Board_first_below.nd rfl rfl (sw_true rfl rfl rfl (by decide +kernel)) (pi_range1 (by rfl) (T.free "range" (by decide +kernel)) (pa_cons (pe_cbK (r := DL.rLen K) call_len' boot_len (T.free "len" (by decide +kernel)) (by rfl) (pa_cons (pe_fldK (K := K) rfl (pv 0)) pa_nil)) pa_nil)) (blkOk_by (own := [("column", 3)]) (N := ["self", "row", "columns", "column"]) (sc := (defScope (inClass (topS 58) 4))) (by decide +kernel)) (fun _ _ _ _ _ => (pg_name (i := 3) sc_Board_first_below.nd rfl (Or.inl rfl))) (fun _ _ _ _ _ => (pts_one (pt_cmpR op_lt (pe_ixK (K := K) rfl (pv 1) (pv 3)) pe_int (nomark _)))) (fun _ _ _ _ _ => (pe_tup (pa_cons (pe_ixK (K := K) rfl (pe_fldK (K := K) rfl (pv 0)) (pv 3)) (pa_cons (pv 3) pa_nil)))))
      (pss_one (ps_ret (pe_ifExp (pt_cmpR op_gt (pe_cbK (r := DL.rLen K) call_len' boot_len (T.free "len" (by decide +kernel)) (by rfl) (pa_cons (pv 2) pa_nil)) pe_int (nomark _)) (pe_ixK (K := K) rfl (pe_cbK (r := rMinPP K) (cr_minPPK (K := K) rfl rfl (hu64 hr)) (by decide +kernel) (T.free "min" (by decide +kernel)) (by rfl) (pa_cons (pv 2) pa_nil)) pe_int) pe_non)))), fun b ds ob Q p => ?_⟩
  obtain ⟨a, a1, a2, a3, rs, B, M, r, row, rfl, O, S, hrow, hlr, q1, q2⟩ := p
  simp only [startD, List.map_nil]
  repeat walk_at "b"
  refine de_lcP (by walk_at "w") (by walk_at "w") ?_
  refine di_rng1 ?_
  repeat walk_at "b"
  refine dc_lenO O.above ?_
  repeat walk_at "b"
  rw [List.length_map, S.above]
  refine ⟨((6 : Nat) : Int), rfl, by omega, by omega, by rw [rangeD_len]; omega, fun _ _ => trivial, fun i => decide (row.getD i 0 < 0), fun i => DL.pairD (B.above.getD i 0, (i : Nat)), ?_, ?_⟩
  · intro b i x hx
    obtain ⟨rfl, hi⟩ := rangeD_get hx
    have hi : i < 6 := hi
    dsimp only [wipeD, List.map, List.set]
    rw [Int.zero_add]
    repeat walk_at "b"
    refine dr_ints hrow (by omega) ?_
    repeat walk_at "b"
    refine ⟨rfl, ?_⟩
    by_cases h : row.getD i 0 < 0
    · refine iteT' (decide_eq_true h) ?_
      repeat walk_at "b"
      refine dr_ints O.above (by rw [S.above]; omega) ?_
      repeat walk_at "b"
      exact ⟨rfl, rfl⟩
    · exact iteF' (decide_eq_false h) rfl
  · rw [rangeD_len, show (((6 : Nat) : Int)).toNat = 6 by rfl]
    have e : ((List.range 6).filter fun i => decide (row.getD i 0 < 0)).map (fun i => DL.pairD (B.above.getD i 0, ((i : Nat) : Int))) = (((List.range 6).filter fun i => decide (row.getD i 0 < 0)).map fun i => (B.above.getD i 0, ((i : Nat) : Int))).map DL.pairD := by rw [List.map_map]; rfl
    rw [e]
    generalize hps : ((List.range 6).filter fun i => decide (row.getD i 0 < 0)).map (fun i => (B.above.getD i 0, ((i : Nat) : Int))) = ps
    have mem : ∀ p, p ∈ ps ↔ ∃ i, i < 6 ∧ row.getD i 0 < 0 ∧ p = (B.above.getD i 0, ((i : Nat) : Int)) := fun p => by
      rw [← hps, List.mem_map]
      constructor
      · rintro ⟨i, hi, rfl⟩
        obtain ⟨h1, h2⟩ := List.mem_filter.mp hi
        exact ⟨i, List.mem_range.mp h1, of_decide_eq_true h2, rfl⟩
      · rintro ⟨i, h1, h2, rfl⟩
        exact ⟨i, List.mem_filter.mpr ⟨List.mem_range.mpr h1, decide_eq_true h2⟩, rfl⟩
    repeat walk_at "b"
    by_cases hn : ps = []
    · subst hn
      refine iteF' (by rfl) ?_
      repeat walk_at "b"
      refine endD_all (q1 fun i hi => ?_)
      have : ¬ row.getD i 0 < 0 := fun z => by
        have := (mem (B.above.getD i 0, ((i : Nat) : Int))).mpr ⟨i, hi, z, rfl⟩
        cases this
      omega
    · have hl : 0 < ps.length := List.length_pos_iff.mpr hn
      refine iteT' (by simp; omega) ?_
      repeat walk_at "b"
      refine dc_minPP hn fun p hp hle => ?_
      obtain ⟨i, hi, hlow, rfl⟩ := (mem p).mp hp
      dsimp only [DL.pairD]
      repeat walk_at "b"
      refine endD_all (q2 i hi hlow fun i' hi' low' => ?_)
      exact hle (B.above.getD i' 0, ((i' : Nat) : Int)) ((mem _).mpr ⟨i', hi', low', rfl⟩)
def pr_Board_is_earlier (K : PySem.W.Frag) : PrP := fun ds Q => ∃ (s e0 e1 e2 e3 f0 f1 f2 f3 : Int), ds = [.int s, .tup [.int e0, .int e1, .int e2, .int e3], .tup [.int f0, .int f1, .int f2, .int f3]] ∧ e0.natAbs < 2 ^ 1000 ∧ e1.natAbs < 2 ^ 1000 ∧ f0.natAbs < 2 ^ 1000 ∧ f1.natAbs < 2 ^ 1000 ∧ Q (.bl (decide (e0 * f1 = f0 * e1 ∧ e2 < f2)))
/-- here the receiver is an owned board -/
def pr_Board_is_earlierA (K : PySem.W.Frag) : Pr := fun ds ob QD => ∃ (a : Addr) (e0 e1 e2 e3 f0 f1 f2 f3 : Int), ds = [.ptr a, .tup [.int e0, .int e1, .int e2, .int e3], .tup [.int f0, .int f1, .int f2, .int f3]] ∧ e0.natAbs < 2 ^ 1000 ∧ e1.natAbs < 2 ^ 1000 ∧ f0.natAbs < 2 ^ 1000 ∧ f1.natAbs < 2 ^ 1000 ∧ QD (.bl (decide (e0 * f1 = f0 * e1 ∧ e2 < f2))) ob
theorem len_Board_is_earlier {ds ob Q} (p : pr_Board_is_earlierA K ds ob Q) : ds.length = 3 := by obtain ⟨_, _, _, _, _, _, _, _, _, rfl, _⟩ := p; rfl
theorem sc_Board_is_earlier : FnScope ["self", "key", "best"] ["self", "key", "best"] (defScope (inClass (topS 58) 7)) := ⟨rfl, rfl, rfl, by decide +kernel, rfl, by decide +kernel, by decide +kernel⟩
theorem ok_Board_is_earlier (T : Txt K mg base) : CalM P w K mg base 1 "Board" "is_earlier" ["self", "key", "best"] (spD K (pr_Board_is_earlierA K)) := by
  refine cal_mkM T (by decide +kernel) (T.me "Board" "is_earlier" "Board.is_earlier" 58 7 (by decide +kernel)) sc_Board_is_earlier (fun _ _ _ _ _ _ us hl => match us, hl with | [_, _, _], _ => rfl) (fun ds ob Q p => len_Board_is_earlier p) fun cdv A outer s H f E hr =>
    ⟨_, (pss_one (ps_ret (pe_and (pe_cmpR op_eq (pe_op op_mulW (pe_ixK (K := K) rfl (pv 1) pe_int) (pe_ixK (K := K) rfl (pv 2) pe_int)) (pe_op op_mulW (pe_ixK (K := K) rfl (pv 2) pe_int) (pe_ixK (K := K) rfl (pv 1) pe_int)) (nomark _)) (pe_one (pe_cmpR op_lt (pe_ixK (K := K) rfl (pv 1) pe_int) (pe_ixK (K := K) rfl (pv 2) pe_int) (nomark _)))))), fun b ds ob Q p => ?_⟩
  obtain ⟨a, e0, e1, e2, e3, f0, f1, f2, f3, rfl, h0, h1, h2, h3, q⟩ := p
  simp only [startD, List.map_nil]
  repeat walk_at "d"
  refine dr_I (wmul h0 h3) ?_
  repeat walk_at "d"
  refine dr_I (wmul h2 h1) ?_
  repeat walk_at "d"
  by_cases h : e0 * f1 = f0 * e1
  · refine iteT' (decide_eq_true h) ?_
    repeat walk_at "d"
    refine endD_all ?_
    have : (decide (e0 * f1 = f0 * e1 ∧ e2 < f2)) = decide (e2 < f2) := decide_eq_decide.mpr ⟨fun z => z.2, fun z => ⟨h, z⟩⟩
    rw [this] at q
    exact q
  · refine iteF' (decide_eq_false h) ?_
    refine endD_all ?_
    have : (decide (e0 * f1 = f0 * e1 ∧ e2 < f2)) = false := decide_eq_false fun z => h z.1
    rw [this] at q
    exact q
def Bnd (l : List Int) : Prop := ∀ x ∈ l, x.natAbs < 2 ^ 1000
theorem Bnd.get {l : List Int} (h : Bnd l) (j : Nat) : (l.getD j 0).natAbs < 2 ^ 1000 := by
  rw [List.getD_eq_getElem?_getD]
  cases e : l[j]? with
  | none => exact Nat.two_pow_pos _
  | some v => exact h v (List.mem_of_getElem? e)
/-- a row changed up to column n -/
def chgN (d : Int) (row chosen : List Int) (q : Nat) (s : Int) (n : Nat) : List Int :=
  (List.range row.length).map fun j => if j < n ∧ j ≠ q then s * (row.getD j 0 * chosen.getD q 0 - row.getD q 0 * chosen.getD j 0) / d else row.getD j 0
theorem chgN_len (d : Int) (row chosen : List Int) (q : Nat) (s : Int) (n : Nat) : (chgN d row chosen q s n).length = row.length := by simp [chgN]
theorem chgN_get {d : Int} {row chosen : List Int} {q : Nat} {s : Int} {n j : Nat} (h : j < row.length) : (chgN d row chosen q s n).getD j 0 = if j < n ∧ j ≠ q then s * (row.getD j 0 * chosen.getD q 0 - row.getD q 0 * chosen.getD j 0) / d else row.getD j 0 := getD_rmap h
theorem list_ext_getD {l m : List Int} (hl : l.length = m.length) (h : ∀ j, j < l.length → l.getD j 0 = m.getD j 0) : l = m := by
  apply List.ext_getElem hl
  intro j h1 h2
  have := h j h1
  rw [List.getD_eq_getElem?_getD, List.getD_eq_getElem?_getD, List.getElem?_eq_getElem h1, List.getElem?_eq_getElem h2] at this
  exact this
theorem chgN_zero (d : Int) (row chosen : List Int) (q : Nat) (s : Int) : chgN d row chosen q s 0 = row :=
  list_ext_getD (chgN_len ..) fun j hj => by rw [chgN_len] at hj; rw [chgN_get hj, if_neg (by omega)]
theorem chgN_same {d : Int} {row chosen : List Int} {q : Nat} {s : Int} : chgN d row chosen q s (q + 1) = chgN d row chosen q s q :=
  list_ext_getD (by rw [chgN_len, chgN_len]) fun j hj => by
    rw [chgN_len] at hj
    rw [chgN_get hj, chgN_get hj]
    by_cases h : j < q
    · rw [if_pos (by omega), if_pos (by omega)]
    · rw [if_neg (by omega), if_neg (by omega)]
theorem chgN_succ {d : Int} {row chosen : List Int} {q : Nat} {s : Int} {n : Nat} (hn : n < row.length) (hq : n ≠ q) : chgN d row chosen q s (n + 1) = (chgN d row chosen q s n).set n (s * (row.getD n 0 * chosen.getD q 0 - row.getD q 0 * chosen.getD n 0) / d) :=
  list_ext_getD (by rw [List.length_set, chgN_len, chgN_len]) fun j hj => by
    rw [chgN_len] at hj
    rw [getD_set (by rw [chgN_len]; exact hn), chgN_get hj, chgN_get hj]
    by_cases e : j = n
    · subst e; rw [if_pos ⟨by omega, hq⟩, if_pos rfl]
    · rw [if_neg e]
      by_cases h : j < n ∧ j ≠ q
      · rw [if_pos ⟨by omega, h.2⟩, if_pos h]
      · rw [if_neg (by omega), if_neg h]
theorem chgN_end {d : Int} {row chosen : List Int} {q : Nat} {s : Int} {n : Nat} (hn : row.length ≤ n) (hq : q < row.length) : (chgN d row chosen q s n).set q (-s * row.getD q 0) = chg d row chosen q s :=
  list_ext_getD (by rw [List.length_set, chgN_len]; simp [chg]) fun j hj => by
    rw [List.length_set, chgN_len] at hj
    rw [getD_set (by rw [chgN_len]; exact hq), chgN_get hj]
    unfold chg
    rw [getD_rmap hj]
    by_cases e : j = q
    · rw [if_pos e, if_pos e]
    · rw [if_neg e, if_neg e, if_pos ⟨by omega, e⟩]
def pr_Board_change_row (K : PySem.W.Frag) : Pr := fun ds ob QD => ∃ (a r c : Addr) (a1 a2 a3 : Addr) (B : Bd) (row chosen : List Int) (q : Nat) (s : Int), ds = [.ptr a, .ptr r, .ptr c, .int (q : Nat), .int s] ∧ ob a = some (.ins (He.ga K "Board") (bfs B a1 a2 a3)) ∧ ob r = some (brow row) ∧ ob c = some (brow chosen) ∧ r ≠ c ∧ r ≠ a ∧
  row.length = 7 ∧ chosen.length = 7 ∧ q < 7 ∧ Bnd row ∧ Bnd chosen ∧ 0 < B.bottom ∧ B.bottom.natAbs < 2 ^ 1000 ∧ (s = 1 ∨ s = -1) ∧ QD .non (ob.put r (brow (chg B.bottom row chosen q s)))
theorem len_Board_change_row {ds ob Q} (p : pr_Board_change_row K ds ob Q) : ds.length = 5 := by obtain ⟨_, _, _, _, _, _, _, _, _, _, _, rfl, _⟩ := p; rfl
theorem dg_sub' {b : Bs} {d : DL.St} {ta tb : TE} {x : Dt} {QS : DL.St → Prop} (h : DE K b ta d fun o d1 => ∃ a xs, o = .ptr a ∧ d1.own a = some (.lst xs) ∧ DE K b tb d1 fun iy d2 => ∃ n : Nat, iy = .int (n : Nat) ∧ d2 = d1 ∧ n < xs.length ∧ QS ⟨d1.sl, d1.own.put a (.lst (xs.set n x))⟩) : DG K b (gSub ta tb rSetL) x d QS :=
  dg_sub fun F σ H R P kk => h F σ H R P fun v H' F' o d1 s R' r ⟨a, xs, e, ho, q⟩ => kk v H' F' o d1 s R' r fun F σ H R P kk => q F σ H R P fun v H' F' y d2 s R' r ⟨n, e2, e3, hn, q2⟩ => kk v H' F' y d2 s R' r ⟨a, xs, (n : Nat), n, e, by rw [e3]; exact ho, e2, by unfold ixN; rw [if_pos (by omega), if_pos (by omega)]; simp, by rw [e3]; exact q2⟩
theorem sc_Board_change_row : FnScope ["self", "row", "chosen", "column", "sign", "pivot", "factor", "here", "entry"] ["self", "row", "chosen", "column", "sign"] (defScope (inClass (topS 58) 2)) := ⟨rfl, rfl, rfl, by decide +kernel, rfl, by decide +kernel, by decide +kernel⟩
theorem ok_Board_change_row (T : Txt K mg base) : CalM P w K mg base 1 "Board" "change_row" ["self", "row", "chosen", "column", "sign"] (spD K (pr_Board_change_row K)) := by
  refine cal_mkM T (by decide +kernel) (T.me "Board" "change_row" "Board.change_row" 58 2 (by decide +kernel)) sc_Board_change_row (fun _ _ _ _ _ _ us hl => match us, hl with | [_, _, _, _, _], _ => rfl) (fun ds ob Q p => len_Board_change_row p) fun cdv A outer s H f E hr =>
    ⟨_, (pss_cons (ps_par (i := 5) (j := 6) rfl sc_Board_change_row.nd rfl rfl (by decide) rfl rfl (pa_cons (pe_ixK (K := K) rfl (pv 2) (pv 3)) (pa_cons (pe_ixK (K := K) rfl (pv 1) (pv 3)) pa_nil)) (by rfl))
      (pss_cons (ps_for PassesOwn.never rfl (pi_enumK (K := K) rfl (by rfl) (T.free "enumerate" (by decide +kernel)) (pa_cons (pv 2) pa_nil)) (pg_tupK (K := K) (n := 2) rfl rfl (pgs_cons (pg_name (i := 7) sc_Board_change_row.nd rfl (.inl rfl)) (pgs_cons (pg_name (i := 8) sc_Board_change_row.nd rfl (.inl rfl)) pgs_nil)))
      (pss_one (ps_if (pt_cmpR op_ne (pv 7) (pv 3) (nomark _)) (pss_one (ps_asg (pe_op op_fdivW (pe_op op_mulW (pv 4) (pe_op op_sub (pe_op op_mulW (pe_ixK (K := K) rfl (pv 1) (pv 7)) (pv 5)) (pe_op op_mulW (pv 6) (pv 8)))) (pe_fldK (K := K) rfl (pv 0))) (pg_sub (pv 1) (pv 7) set_list))) pss_nil)))
      (pss_one (ps_asg (pe_op op_mulW (pe_un un_neg (pv 4)) (pv 6)) (pg_sub (pv 1) (pv 3) set_list))))), fun b ds ob Q p => ?_⟩
  obtain ⟨a, r, c, a1, a2, a3, B, row, chosen, q, s, rfl, ha, hr1, hc, hrc, hra, lr, lc, hq, br, bc, hb0, hb1, hs, qd⟩ := p
  simp only [startD, List.map_nil]
  repeat walk_at "d"
  refine dr_ints hc (by omega) ?_
  repeat walk_at "d"
  refine dr_ints hr1 (by omega) ?_
  repeat walk_at "d"
  refine dx_for (di_enumO ?_)
  repeat walk_at "d"
  have hsz : s.natAbs < 2 ^ 10 := by rcases hs with e | e <;> (subst e; decide)
  refine ⟨c, _, rfl, hc, fun n d => ∃ x y, d = ⟨[some (.ptr a), some (.ptr r), some (.ptr c), some (.int (q : Nat)), some (.int s), some (.int (chosen.getD q 0)), some (.int (row.getD q 0)), x, y], ob.put r (brow (chgN B.bottom row chosen q s n))⟩, ?_, ?_, ?_, ?_⟩
  · refine ⟨none, none, ?_⟩
    rw [chgN_zero]
    congr 1
    funext z
    by_cases e : z = r
    · subst e; rw [Own.put_same]; exact hr1
    · rw [Own.put_ne e]
  · rintro n d _ ⟨x, y, rfl⟩
    exact (Own.put_ne (Ne.symm hrc)).trans hc
  · rintro n x d hx ⟨u, v, rfl⟩
    obtain ⟨y, hy, rfl⟩ := enumD_get hx
    obtain ⟨z, hz, rfl⟩ := map_get hy
    have hn : n < 7 := by rw [← lc]; exact (List.getElem?_eq_some_iff.mp hz).1
    have ez : z = chosen.getD n 0 := by rw [List.getD_eq_getElem?_getD, hz]; rfl
    repeat walk_at "d"
    by_cases hnq : n = q
    · subst hnq
      refine iteF' (by simp) ?_
      repeat walk_at "d"
      exact ⟨_, _, by rw [chgN_same]⟩
    · refine iteT' (by simp; omega) ?_
      repeat walk_at "d"
      refine dr_ints (xs := chgN B.bottom row chosen q s n) Own.put_same (by rw [chgN_len]; omega) ?_
      rw [chgN_get (by omega), if_neg (by omega)]
      repeat walk_at "d"
      refine dr_I (wmul (br.get n) (bc.get q)) ?_
      repeat walk_at "d"
      refine dr_I (wmul (br.get q) (by rw [ez]; exact bc.get n)) ?_
      repeat walk_at "d"
      have hm : (row.getD n 0 * chosen.getD q 0 - row.getD q 0 * z).natAbs < 2 ^ 2001 := by
        have h1 := wide_lt (br.get n) (bc.get q)
        have h2 := wide_lt (br.get q) (show z.natAbs < 2 ^ 1000 by rw [ez]; exact bc.get n)
        have h3 : (2 : Nat) ^ 2001 = 2 ^ (1000 + 1000) + 2 ^ (1000 + 1000) := by
          rw [show (2001 : Nat) = (1000 + 1000) + 1 from rfl, Nat.pow_succ]; omega
        rw [h3]
        omega
      refine dr_I (wmul hsz hm) ?_
      repeat walk_at "d"
      refine de_fldO (T.cls "Board" (by decide +kernel)).1 (T.noat "Board" "bottom" (by decide +kernel)) ?_
      repeat walk_at "d"
      refine ⟨a, _, _, rfl, (Own.put_ne (Ne.symm hra)).trans ha, by rfl, ?_⟩
      refine dr_I (wide_div hb0 hb1 (by decide) (by decide)) ?_
      repeat walk_at "d"
      refine dg_sub' ?_
      repeat walk_at "d"
      refine ⟨r, _, rfl, Own.put_same, ?_⟩
      repeat walk_at "d"
      refine ⟨n, rfl, rfl, by rw [List.length_map, chgN_len]; omega, ?_⟩
      refine ⟨some (.int (n : Nat)), some (.int z), ?_⟩
      rw [Own.put_put, chgN_succ (by omega) hnq, ez]
      unfold brow
      rw [List.map_set]
  · rintro d ⟨u, v, rfl⟩
    rw [enumD_len, List.length_map, lc]
    repeat walk_at "d"
    refine dr_I (wmul (a := 10) (by rw [Int.natAbs_neg]; exact hsz) (br.get q)) ?_
    repeat walk_at "d"
    refine dg_sub' ?_
    repeat walk_at "d"
    refine ⟨r, _, rfl, Own.put_same, ?_⟩
    repeat walk_at "d"
    refine ⟨q, rfl, rfl, by rw [List.length_map, chgN_len]; omega, ?_⟩
    refine endD_all ?_
    show Q .non ((ob.put r _).put r _)
    rw [Own.put_put]
    have e := chgN_end (d := B.bottom) (row := row) (chosen := chosen) (q := q) (s := s) (n := 7) (by omega) (by omega)
    rw [← e] at qd
    unfold brow at qd
    rw [List.map_set] at qd
    exact qd
end
end Cab
/-! W4c -/
set_option Elab.async false
set_option linter.all false
set_option maxRecDepth 100000
set_option maxHeartbeats 4000000
namespace Cab
open PySem PySem.Spec PyProof.Rows L2 DL
local macro_rules | `(tactic| walk_at "d") => `(tactic| first
  | with_reducible refine dx_seq ?_ | with_reducible refine dx_ret ?_ | with_reducible refine dx_asg ?_ | ((with_reducible refine dg_name ?_); dsimp only [List.set])
  | with_reducible refine de_op ?_ | ((with_reducible refine' de_var ?h1 ?_); (case h1 => exact rfl)) | with_reducible refine de_int ?_ | with_reducible refine da_cons ?_ | with_reducible refine da_nil ?_
  | ((with_reducible refine' dr_xT ?h1 ?_); (case h1 => exact rfl)) | ((with_reducible refine' dr_xL ?h1 ?_); (case h1 => exact rfl)) | with_reducible refine dr_I0 ?_ | with_reducible refine dr_I0b ?_ | with_reducible refine de_callP ?_ | with_reducible refine de_callA ?_
  | with_reducible refine de_cb ?_ | with_reducible refine de_un ?_ | with_reducible refine du_I ?_ | with_reducible refine de_bl ?_ | with_reducible refine de_non ?_ | with_reducible refine de_str ?_ | with_reducible refine de_ty ?_
  | with_reducible refine dr_eqI ?_ | with_reducible refine dr_neI ?_ | with_reducible refine dr_eqS ?_ | with_reducible refine dr_isN ?_ | with_reducible refine dr_notN ?_
  | with_reducible refine dt_and ?_ | with_reducible refine dt_or ?_ | with_reducible refine dt_not ?_ | with_reducible refine de_if ?_ | with_reducible refine de_andV ?_ | with_reducible refine de_orV ?_ | with_reducible refine de_notV ?_
  | ((with_reducible refine dt_test ?_)) | ((with_reducible refine dt_B ?_))
  | with_reducible refine dx_par' ?_ | with_reducible refine dx_par3' ?_ | with_reducible refine ex_bl ?_ | with_reducible refine ex_int ?_ | with_reducible refine isi_int ?_ | with_reducible refine isi_intB ?_ | with_reducible refine isi_tup ?_ | with_reducible refine isi_tupS ?_ | with_reducible refine isi_str ?_ | with_reducible refine de_chain ?_ | with_reducible refine dt_chain ?_ | with_reducible refine iteT ?_ | with_reducible refine iteF ?_ | with_reducible refine dx_if ?_ | with_reducible refine dx_drop ?_ | with_reducible refine dx_cont ?_ | with_reducible refine dx_next ?_
  | with_reducible refine dc_abs ?_ | with_reducible refine dc_lenT ?_ | with_reducible refine dc_lenL ?_ | with_reducible refine dc_int ?_ | with_reducible refine dc_max2 ?_ | with_reducible refine dc_min2 ?_ | with_reducible refine dc_tupL ?_
  | with_reducible refine de_fldF ?_ ?_ ?_ | with_reducible refine de_tup ?_ | ((with_reducible refine len_ok ?h1 ?_); (case h1 => exact rfl))
  | ((with_reducible refine iteT' ?h1 ?_); (case h1 => rfl)) | ((with_reducible refine iteF' ?h1 ?_); (case h1 => rfl))
  | with_reducible refine ex_int2 ?_ | ((with_reducible refine' dg_tup ?h1 ?_); (case h1 => rfl)) | with_reducible refine dgs_cons ?_ | with_reducible refine dgs_nil ?_ | with_reducible refine dc_lenX ?_ | with_reducible refine dr_inX ?_
  | dsimp only [List.set])
/-- a comprehension's targets -/
local macro_rules | `(tactic| walk_at "w") => `(tactic| repeat first
  | exact wp_name (by simp) | exact mo_name | exact wps_nil | exact mos_nil
  | refine wp_tup ?_ | refine wps_cons ?_ ?_ ?_ ?_ | refine mo_tup ?_ | refine mos_cons ?_ ?_)
/-- ends that are told by a value: a bool, a pair -/
local macro_rules | `(tactic| walk_at "e") => `(tactic| first
  | walk_at "d"
  | ((with_reducible refine Exists.intro _ (And.intro rfl ?_))))
section
variable {P : Program} {w : World} {K : PySem.W.Frag} {mg : Str → Option Value} {base : Heap}
open Tab
local macro_rules | `(tactic| walk_at "b") => `(tactic| first
  | with_reducible refine fldB_bottom (by assumption) ?_ | with_reducible refine fldB_above (by assumption) ?_ | with_reducible refine fldB_rows (by assumption) ?_ | with_reducible refine fldB_aside (by assumption) ?_ | with_reducible refine fldB_base (by assumption) ?_
  | with_reducible refine ⟨_, _, _, _, _, _, rfl, (by assumption), ?_⟩
  | with_reducible refine de_methA ?_
  | walk_at "d")
/-! ### the board: exchanges -/
section
variable {ow : Own} {a a1 a2 a3 : Addr} {rs : List Addr} {B : Bd}
structure Apt (a a1 a2 a3 : Addr) (rs : List Addr) : Prop where
  n01 : a ≠ a1
  n02 : a ≠ a2
  n03 : a ≠ a3
  n12 : a1 ≠ a2
  n13 : a1 ≠ a3
  n23 : a2 ≠ a3
  r0 : ∀ (i : Nat) (h : i < rs.length), rs[i] ≠ a
  r1 : ∀ (i : Nat) (h : i < rs.length), rs[i] ≠ a1
  r2 : ∀ (i : Nat) (h : i < rs.length), rs[i] ≠ a2
  r3 : ∀ (i : Nat) (h : i < rs.length), rs[i] ≠ a3
  rr : ∀ (i j : Nat) (h : i < rs.length) (h' : j < rs.length), i ≠ j → rs[i] ≠ rs[j]
theorem apt_of (h : (a :: a1 :: a2 :: a3 :: rs).Nodup) : Apt a a1 a2 a3 rs := by
  simp only [List.nodup_cons, List.mem_cons, not_or] at h
  obtain ⟨⟨h1, h2, h3, h4⟩, ⟨h5, h6, h7⟩, ⟨h8, h9⟩, h10, h11⟩ := h
  exact ⟨h1, h2, h3, h5, h6, h8, fun i h e => h4 (e ▸ List.getElem_mem h), fun i h e => h7 (e ▸ List.getElem_mem h), fun i h e => h9 (e ▸ List.getElem_mem h), fun i h e => h10 (e ▸ List.getElem_mem h), fun i j h h' ne e => by
    have pw := List.pairwise_iff_getElem.mp h11
    by_cases lt : i < j
    · exact pw i j h h' lt e
    · exact pw j i h' h (by omega) e.symm⟩
theorem BO.setRow (O : BO K ow a a1 a2 a3 rs B) {i : Nat} (h : i < rs.length) (r : List Int) : BO K (ow.put rs[i] (brow r)) a a1 a2 a3 rs { B with rows := B.rows.set i r } := by
  have A := apt_of O.nd
  refine ⟨?_, ?_, ?_, ?_, fun j hj => ?_, by show rs.length = (B.rows.set i r).length; rw [List.length_set]; exact O.len, O.nd⟩
  · rw [Own.put_ne (A.r0 i h).symm]; exact O.self
  · rw [Own.put_ne (A.r1 i h).symm]; exact O.above
  · rw [Own.put_ne (A.r2 i h).symm]; exact O.rows
  · rw [Own.put_ne (A.r3 i h).symm]; exact O.aside
  · show _ = some (brow ((B.rows.set i r).getD j []))
    by_cases e : j = i
    · subst e
      rw [Own.put_same, getD_set (by rw [← O.len]; exact h), if_pos rfl]
    · rw [Own.put_ne (A.rr j i hj h e), getD_set (by rw [← O.len]; exact h), if_neg e]
      exact O.row j hj
theorem BO.setBottom (O : BO K ow a a1 a2 a3 rs B) (v : Int) : BO K (ow.put a (.ins (He.ga K "Board") (bfs { B with bottom := v } a1 a2 a3))) a a1 a2 a3 rs { B with bottom := v } := by
  have A := apt_of O.nd
  refine ⟨Own.put_same, ?_, ?_, ?_, fun j hj => ?_, O.len, O.nd⟩
  · rw [Own.put_ne A.n01.symm]; exact O.above
  · rw [Own.put_ne A.n02.symm]; exact O.rows
  · rw [Own.put_ne A.n03.symm]; exact O.aside
  · rw [Own.put_ne (A.r0 j hj)]; exact O.row j hj
theorem BO.setAbove (O : BO K ow a a1 a2 a3 rs B) (l : List Int) : BO K (ow.put a1 (brow l)) a a1 a2 a3 rs { B with above := l } := by
  have A := apt_of O.nd
  refine ⟨?_, Own.put_same, ?_, ?_, fun j hj => ?_, O.len, O.nd⟩
  · rw [Own.put_ne A.n01]; exact O.self
  · rw [Own.put_ne A.n12.symm]; exact O.rows
  · rw [Own.put_ne A.n13.symm]; exact O.aside
  · rw [Own.put_ne (A.r1 j hj)]; exact O.row j hj
theorem BO.setAside (O : BO K ow a a1 a2 a3 rs B) (l : List Int) : BO K (ow.put a3 (brow l)) a a1 a2 a3 rs { B with aside := l } := by
  have A := apt_of O.nd
  refine ⟨?_, ?_, ?_, Own.put_same, fun j hj => ?_, O.len, O.nd⟩
  · rw [Own.put_ne A.n03]; exact O.self
  · rw [Own.put_ne A.n13]; exact O.above
  · rw [Own.put_ne A.n23]; exact O.rows
  · rw [Own.put_ne (A.r3 j hj)]; exact O.row j hj
theorem BO.repl (O : BO K ow a a1 a2 a3 rs B) {p : Nat} (h : p < rs.length) {e : Addr} (he : ow e = none) (r : List Int) : BO K ((ow.put e (brow r)).put a2 (.lst ((rs.map Dt.ptr).set p (.ptr e)))) a a1 a2 a3 (rs.set p e) { B with rows := B.rows.set p r } := by
  have A := apt_of O.nd
  have ne : ∀ {x : Addr} {y : Ow}, ow x = some y → x ≠ e := fun z q => by rw [q, he] at z; cases z
  have e0 := ne O.self
  have e1 := ne O.above
  have e2 := ne O.rows
  have e3 := ne O.aside
  have er : ∀ i (h : i < rs.length), rs[i] ≠ e := fun i h => ne (O.row i h)
  refine ⟨?_, ?_, ?_, ?_, fun j hj => ?_, ?_, ?_⟩
  · rw [Own.put_ne A.n02, Own.put_ne e0]; exact O.self
  · rw [Own.put_ne A.n12, Own.put_ne e1]; exact O.above
  · rw [Own.put_same, List.map_set]
  · rw [Own.put_ne A.n23.symm, Own.put_ne e3]; exact O.aside
  · have hj' : j < rs.length := by rw [List.length_set] at hj; exact hj
    show _ = some (brow ((B.rows.set p r).getD j []))
    rw [getD_set (by rw [← O.len]; exact h)]
    by_cases q : j = p
    · subst q
      rw [List.getElem_set_self, Own.put_ne e2.symm, Own.put_same, if_pos rfl]
    · rw [List.getElem_set_ne (Ne.symm q), Own.put_ne (A.r2 j hj'), Own.put_ne (er j hj'), if_neg q]
      exact O.row j hj'
  · show (rs.set p e).length = (B.rows.set p r).length
    rw [List.length_set, List.length_set]; exact O.len
  · have nd := O.nd
    simp only [List.nodup_cons, List.mem_cons, not_or] at nd ⊢
    obtain ⟨⟨h1, h2, h3, h4⟩, ⟨h5, h6, h7⟩, ⟨h8, h9⟩, h10, h11⟩ := nd
    have sub : ∀ {x : Addr}, x ∉ rs → x ≠ e → x ∉ rs.set p e := fun hx hxe hm => by
      rcases List.mem_or_eq_of_mem_set hm with z | z
      · exact hx z
      · exact hxe z
    refine ⟨⟨h1, h2, h3, sub h4 e0⟩, ⟨h5, h6, sub h7 e1⟩, ⟨h8, sub h9 e2⟩, sub h10 e3, ?_⟩
    refine List.pairwise_iff_getElem.mpr fun i j hi hj lt q => ?_
    have hi' : i < rs.length := by rw [List.length_set] at hi; exact hi
    have hj' : j < rs.length := by rw [List.length_set] at hj; exact hj
    rw [List.getElem_set, List.getElem_set] at q
    by_cases ei : p = i
    · by_cases ej : p = j
      · omega
      · rw [if_pos ei, if_neg ej] at q
        exact absurd q.symm (er j hj')
    · by_cases ej : p = j
      · rw [if_neg ei, if_pos ej] at q
        exact absurd q (er i hi')
      · rw [if_neg ei, if_neg ej] at q
        exact absurd q (A.rr i j hi' hj' (by omega))
end
/-- the rows changed up to n -/
def rowsN (B : Bd) (p q n : Nat) : List (List Int) := (List.range B.rows.length).map fun i => if i < n ∧ i ≠ p then chg B.bottom (B.rows.getD i []) (B.rows.getD p []) q (sg (ent B p q)) else B.rows.getD i []
theorem rowsN_len (B : Bd) (p q n : Nat) : (rowsN B p q n).length = B.rows.length := by simp [rowsN]
theorem rowsN_get {B : Bd} {p q n i : Nat} (h : i < B.rows.length) : (rowsN B p q n).getD i [] = if i < n ∧ i ≠ p then chg B.bottom (B.rows.getD i []) (B.rows.getD p []) q (sg (ent B p q)) else B.rows.getD i [] := getD_rmap h
theorem list_ext_getD' {l m : List (List Int)} (hl : l.length = m.length) (h : ∀ j, j < l.length → l.getD j [] = m.getD j []) : l = m := by
  apply List.ext_getElem hl
  intro j h1 h2
  have := h j h1
  rw [List.getD_eq_getElem?_getD, List.getD_eq_getElem?_getD, List.getElem?_eq_getElem h1, List.getElem?_eq_getElem h2] at this
  exact this
theorem rowsN_zero (B : Bd) (p q : Nat) : rowsN B p q 0 = B.rows :=
  list_ext_getD' (rowsN_len ..) fun j hj => by rw [rowsN_len] at hj; rw [rowsN_get hj, if_neg (by omega)]
theorem rowsN_same {B : Bd} {p q : Nat} : rowsN B p q (p + 1) = rowsN B p q p :=
  list_ext_getD' (by rw [rowsN_len, rowsN_len]) fun j hj => by
    rw [rowsN_len] at hj
    rw [rowsN_get hj, rowsN_get hj]
    by_cases h : j < p
    · rw [if_pos (by omega), if_pos (by omega)]
    · rw [if_neg (by omega), if_neg (by omega)]
theorem rowsN_succ {B : Bd} {p q n : Nat} (hn : n < B.rows.length) (hp : n ≠ p) : rowsN B p q (n + 1) = (rowsN B p q n).set n (chg B.bottom (B.rows.getD n []) (B.rows.getD p []) q (sg (ent B p q))) :=
  list_ext_getD' (by rw [List.length_set, rowsN_len, rowsN_len]) fun j hj => by
    rw [rowsN_len] at hj
    rw [getD_set (by rw [rowsN_len]; exact hn), rowsN_get hj, rowsN_get hj]
    by_cases e : j = n
    · subst e; rw [if_pos ⟨by omega, hp⟩, if_pos rfl]
    · rw [if_neg e]
      by_cases h : j < n ∧ j ≠ p
      · rw [if_pos ⟨by omega, h.2⟩, if_pos h]
      · rw [if_neg (by omega), if_neg h]
theorem rowsN_end {B : Bd} {p q n : Nat} (hn : B.rows.length ≤ n) (hp : p < B.rows.length) : (rowsN B p q n).set p (((B.rows.getD p []).map fun e => sg (ent B p q) * e).set q (sg (ent B p q) * B.bottom)) = (exch B p q).rows :=
  list_ext_getD' (by rw [List.length_set, rowsN_len]; simp [exch]) fun j hj => by
    rw [List.length_set, rowsN_len] at hj
    rw [getD_set (by rw [rowsN_len]; exact hp), rowsN_get hj]
    show _ = ((List.range B.rows.length).map _).getD j []
    rw [getD_rmap hj]
    by_cases e : j = p
    · rw [if_pos e, if_pos e]; rfl
    · rw [if_neg e, if_neg e, if_pos ⟨by omega, e⟩]; rfl
/-- all entries are bounded -/
def BB (B : Bd) : Prop := (∀ i, Bnd (B.rows.getD i [])) ∧ 0 < B.bottom ∧ B.bottom.natAbs < 2 ^ 1000
def pr_Board_exchange (K : PySem.W.Frag) : Pr := fun ds ob QD => ∃ a a1 a2 a3 rs B M p q, ds = [.ptr a, .int ((p : Nat) : Int), .int ((q : Nat) : Int)] ∧ BO K ob a a1 a2 a3 rs B ∧ Shp 6 M B ∧ BB B ∧ p < M ∧ q < 6 ∧ ent B p q ≠ 0 ∧
  ∀ ob' rs', BO K ob' a a1 a2 a3 rs' (exch B p q) → QD .non ob'
theorem len_Board_exchange {ds ob Q} (p : pr_Board_exchange K ds ob Q) : ds.length = 3 := by obtain ⟨_, _, _, _, _, _, _, _, _, rfl, _⟩ := p; rfl
theorem sc_Board_exchange : FnScope ["self", "place", "column", "pivot", "sign", "here", "row", "entry"] ["self", "place", "column"] (defScope (inClass (topS 58) 1)) := ⟨rfl, rfl, rfl, by decide +kernel, rfl, by decide +kernel, by decide +kernel⟩
theorem ok_Board_exchange (T : Txt K mg base) : CalM P w K mg base 2 "Board" "exchange" ["self", "place", "column"] (spD K (pr_Board_exchange K)) := by
  refine cal_mkM T (by decide +kernel) (T.me "Board" "exchange" "Board.exchange" 58 1 (by decide +kernel)) sc_Board_exchange (fun _ _ _ _ _ _ us hl => match us, hl with | [_, _, _], _ => rfl) (fun ds ob Q p => len_Board_exchange p) fun cdv A outer s H f E hr =>
    ⟨_, (pss_cons (ps_set (i := 3) sc_Board_exchange.nd rfl (.inl rfl) (pe_ixK (K := K) rfl (pe_ixK (K := K) rfl (pe_fldK (K := K) rfl (pv 0)) (pv 1)) (pv 2)))
      (pss_cons (ps_set (i := 4) sc_Board_exchange.nd rfl (.inr rfl) (pe_ifExp (pt_cmpR op_gt (pv 3) pe_int (nomark _)) pe_int (pe_un un_neg pe_int)))
      (pss_cons (ps_for PassesOwn.never rfl (pi_enumK (K := K) rfl (by rfl) (T.free "enumerate" (by decide +kernel)) (pa_cons (pe_fldK (K := K) rfl (pv 0)) pa_nil)) (pg_tupK (K := K) (n := 2) rfl rfl (pgs_cons (pg_name (i := 5) sc_Board_exchange.nd rfl (.inl rfl)) (pgs_cons (pg_name (i := 6) sc_Board_exchange.nd rfl (.inl rfl)) pgs_nil)))
      (pss_one (ps_if (pt_cmpR op_ne (pv 5) (pv 1) (nomark _)) (pss_one (ps_expr (pe_calM (K := K) rfl (ok_Board_change_row (K := K) T) (by decide) (hr.mono (by decide)) (pv 0) (pa_cons (pv 6) (pa_cons (pe_ixK (K := K) rfl (pe_fldK (K := K) rfl (pv 0)) (pv 1)) (pa_cons (pv 2) (pa_cons (pv 4) pa_nil))))))) pss_nil)))
      (pss_cons (ps_asg (pe_lc (own := [("entry", 7)]) (g := (gName 7)) (tt := tYes) rfl sc_Board_exchange.nd (pi_listK (K := K) rfl (pe_ixK (K := K) rfl (pe_fldK (K := K) rfl (pv 0)) (pv 1))) (blkOk_by (own := [("entry", 7)]) (N := ["self", "place", "column", "pivot", "sign", "here", "row", "entry"]) (sc := (defScope (inClass (topS 58) 1))) (by decide +kernel)) (fun _ _ _ _ _ => (pg_name (i := 7) sc_Board_exchange.nd rfl (Or.inl rfl))) (fun _ _ _ _ _ => pts_nil) (fun _ _ _ _ _ => (pe_op op_mulW (pv 4) (pv 7)))) (pg_sub (pe_fldK (K := K) rfl (pv 0)) (pv 1) set_list))
      (pss_cons (ps_asg (pe_op op_mulW (pv 4) (pe_fldK (K := K) rfl (pv 0))) (pg_sub (pe_ixK (K := K) rfl (pe_fldK (K := K) rfl (pv 0)) (pv 1)) (pv 2) set_list))
      (pss_cons (ps_fldK (K := K) rfl (pv 0) (pe_op op_mulW (pv 4) (pv 3)))
      (pss_one (ps_asg (pe_tup (pa_cons (pe_ixK (K := K) rfl (pe_fldK (K := K) rfl (pv 0)) (pv 1)) (pa_cons (pe_ixK (K := K) rfl (pe_fldK (K := K) rfl (pv 0)) (pv 2)) pa_nil))) (pg_tupK (K := K) (n := 2) rfl rfl (pgs_cons (pg_sub (pe_fldK (K := K) rfl (pv 0)) (pv 2) set_list) (pgs_cons (pg_sub (pe_fldK (K := K) rfl (pv 0)) (pv 1) set_list) pgs_nil))))))))))), fun b ds ob Q p => ?_⟩
  obtain ⟨a, a1, a2, a3, rs, B, M, p, q, rfl, O, S, hB, hp, hq, h0, qd⟩ := p
  simp only [startD, List.map_nil]
  have hrl : rs.length = M + 1 := by rw [O.len]; exact S.rows
  have hrb : B.rows.length = M + 1 := S.rows
  have A := apt_of O.nd
  obtain ⟨hb1, hb2, hb3⟩ := hB
  repeat walk_at "b"
  refine dr_rowsO O (n := p) (by omega) ?_
  repeat walk_at "b"
  refine dr_ints (O.row p (by omega)) (n := q) (by rw [S.row p (by omega)]; omega) ?_
  show DG K b _ (.int (ent B p q)) _ _
  repeat walk_at "b"
  have hsg : ∀ {Qx : Dt → DL.St → Prop} {d : DL.St}, Qx (.int (sg (ent B p q))) d → (if decide (0 < ent B p q) = true then DE K b (tC (.int 1)) d Qx else DE K b (tUn (rU fun i => V.int (-i)) (tC (.int 1))) d Qx) := by
    intro Qx d h
    by_cases hpos : 0 < ent B p q
    · refine iteT' (decide_eq_true hpos) ?_
      refine de_int ?_
      unfold sg at h
      rw [if_pos hpos] at h
      exact h
    · refine iteF' (decide_eq_false hpos) ?_
      refine de_un ?_
      refine de_int ?_
      refine du_I ?_
      unfold sg at h
      rw [if_neg hpos] at h
      exact h
  refine hsg ?_
  have hs : sg (ent B p q) = 1 ∨ sg (ent B p q) = -1 := by unfold sg; split <;> simp
  have hsz : (sg (ent B p q)).natAbs < 2 ^ 10 := by rcases hs with e | e <;> (rw [e]; decide)
  generalize hsv : sg (ent B p q) = sv at hs hsz
  repeat walk_at "b"
  refine dx_for (di_enumO ?_)
  repeat walk_at "b"
  refine ⟨a2, _, rfl, O.rows, fun n d => ∃ x y ow, d = ⟨[some (.ptr a), some (.int (p : Nat)), some (.int (q : Nat)), some (.int (ent B p q)), some (.int sv), x, y, none], ow⟩ ∧ BO K ow a a1 a2 a3 rs { B with rows := rowsN B p q n }, ⟨none, none, ob, rfl, by rw [rowsN_zero]; exact O⟩, ?_, ?_, ?_⟩
  · rintro n d _ ⟨x, y, ow, rfl, O'⟩
    exact O'.rows
  · rintro n x d hx ⟨u, v, ow, rfl, O'⟩
    obtain ⟨y, hy, rfl⟩ := enumD_get hx
    obtain ⟨z, hz, rfl⟩ := map_get hy
    have hn : n < rs.length := (List.getElem?_eq_some_iff.mp hz).1
    have ez : rs[n] = z := (List.getElem?_eq_some_iff.mp hz).2
    subst ez
    repeat walk_at "b"
    by_cases hnp : n = p
    · subst hnp
      refine iteF' (by simp) ?_
      repeat walk_at "b"
      exact ⟨_, _, ow, rfl, by rw [rowsN_same]; exact O'⟩
    · refine iteT' (by simp; omega) ?_
      repeat walk_at "b"
      refine ⟨.inl ⟨a, _, rfl, O'.self, by rfl⟩, ?_⟩
      repeat walk_at "b"
      refine dr_rowsO O' (n := p) (by omega) ?_
      repeat walk_at "b"
      have r1 := O'.row n hn
      have r2 := O'.row p (by omega)
      have g1 : (rowsN B p q n).getD n [] = B.rows.getD n [] := by rw [rowsN_get (by omega), if_neg (by omega)]
      have g2 : (rowsN B p q n).getD p [] = B.rows.getD p [] := by rw [rowsN_get (by omega), if_neg (by omega)]
      rw [show ({ B with rows := rowsN B p q n } : Bd).rows.getD n [] = B.rows.getD n [] from g1] at r1
      rw [show ({ B with rows := rowsN B p q n } : Bd).rows.getD p [] = B.rows.getD p [] from g2] at r2
      refine ⟨a, rs[n], rs[p]'(by omega), a1, a2, a3, { B with rows := rowsN B p q n }, B.rows.getD n [], B.rows.getD p [], q, sv, rfl, O'.self, r1, r2, A.rr n p hn (by omega) hnp, A.r0 n hn, S.row n (by omega), S.row p (by omega), by omega, hb1 n, hb1 p, hb2, hb3, hs, ?_⟩
      repeat walk_at "b"
      refine ⟨some (.int (n : Nat)), some (.ptr rs[n]), _, rfl, ?_⟩
      have := O'.setRow hn (chg B.bottom (B.rows.getD n []) (B.rows.getD p []) q sv)
      rw [rowsN_succ (by omega) hnp, hsv]
      exact this
  · rintro d ⟨u, v, ow, rfl, O'⟩
    rw [enumD_len, List.length_map] at O'
    have hend : ∀ l : List Int, ({ ({ B with rows := rowsN B p q rs.length } : Bd) with rows := (rowsN B p q rs.length).set p l } : Bd) = { B with rows := (rowsN B p q rs.length).set p l } := fun _ => rfl
    have r2 := O'.row p (by omega)
    have g2 : (rowsN B p q rs.length).getD p [] = B.rows.getD p [] := by rw [rowsN_get (by omega), if_neg (by omega)]
    rw [show ({ B with rows := rowsN B p q rs.length } : Bd).rows.getD p [] = B.rows.getD p [] from g2] at r2
    repeat walk_at "b"
    refine de_lcMO (by walk_at "w") (by walk_at "w") ?_
    refine di_listO ?_
    repeat walk_at "b"
    refine dr_rowsO O' (n := p) (by omega) ?_
    refine ⟨_, _, rfl, r2, ?_⟩
    have hlp : (B.rows.getD p []).length = 7 := S.row p (by omega)
    refine ⟨by rw [List.length_map]; omega, fun d e => by rw [e]; exact r2, fun j => .int (sv * (B.rows.getD p []).getD j 0), ?_, ?_⟩
    · intro b j y hy
      obtain ⟨z, hz, rfl⟩ := map_get hy
      dsimp only [wipeD, List.map, List.set]
      rw [show (B.rows.getD p []).getD j 0 = z by rw [List.getD_eq_getElem?_getD, hz]; rfl]
      repeat walk_at "b"
      refine dr_I (wmul (a := 10) hsz (hb1 p z (List.mem_of_getElem? hz))) ?_
      exact ⟨rfl, rfl⟩
    · intro e he
      have he : ow e = none := he
      rw [List.length_map, hlp]
      have hl : (List.range 7).map (fun j => Dt.int (sv * (B.rows.getD p []).getD j 0)) = (((B.rows.getD p []).map fun x => sv * x)).map Dt.int := by
        rw [List.map_map]
        apply List.ext_getElem
        · rw [List.length_map, List.length_range, List.length_map, hlp]
        · intro j h1 h2
          simp only [List.getElem_map, List.getElem_range]
          have hj : j < (B.rows.getD p []).length := by simpa using h2
          rw [List.getD_eq_getElem?_getD, List.getElem?_eq_getElem hj]; rfl
      rw [hl]
      have O2 := O'.repl (p := p) (by omega) he ((B.rows.getD p []).map fun x => sv * x)
      have ne2 : a2 ≠ e := fun z => by rw [← z, O'.rows] at he; cases he
      have ne0 : a ≠ e := fun z => by rw [← z, O'.self] at he; cases he
      refine dg_sub' ?_
      refine fldB_rows T ?_
      repeat walk_at "d"
      refine ⟨a, a1, a2, a3, rs, { B with rows := rowsN B p q rs.length }, rfl, ?_, ?_⟩
      · exact ⟨(Own.put_ne ne0).trans O'.self, (Own.put_ne (fun z => by rw [← z, O'.above] at he; cases he)).trans O'.above, (Own.put_ne ne2).trans O'.rows, (Own.put_ne (fun z => by rw [← z, O'.aside] at he; cases he)).trans O'.aside, fun j hj => (Own.put_ne (fun z => by rw [← z, O'.row j hj] at he; cases he)).trans (O'.row j hj), O'.len, O'.nd⟩
      refine ⟨a2, _, rfl, (Own.put_ne ne2).trans O'.rows, ?_⟩
      repeat walk_at "d"
      refine ⟨p, rfl, rfl, by rw [List.length_map]; omega, ?_⟩
      replace O2 : BO K ((ow.put e (Ow.lst (((B.rows.getD p []).map fun x => sv * x).map Dt.int))).put a2 (.lst ((rs.map Dt.ptr).set p (.ptr e)))) a a1 a2 a3 (rs.set p e) { B with rows := (rowsN B p q rs.length).set p ((B.rows.getD p []).map fun x => sv * x) } := O2
      generalize hw2 : (ow.put e (Ow.lst (((B.rows.getD p []).map fun x => sv * x).map Dt.int))).put a2 (.lst ((rs.map Dt.ptr).set p (.ptr e))) = ow2 at O2
      try rw [hw2]
      generalize hrs2 : rs.set p e = rs2 at O2
      have hl2 : rs2.length = M + 1 := by rw [← hrs2, List.length_set]; exact hrl
      generalize hB2 : ({ B with rows := (rowsN B p q rs.length).set p ((B.rows.getD p []).map fun x => sv * x) } : Bd) = B2 at O2
      have eb : B2.bottom = B.bottom := by rw [← hB2]
      have ea : B2.above = B.above := by rw [← hB2]
      have es : B2.aside = B.aside := by rw [← hB2]
      have er : B2.rows = (rowsN B p q rs.length).set p ((B.rows.getD p []).map fun x => sv * x) := by rw [← hB2]
      have ebs : B2.base = B.base := by rw [← hB2]
      have erp : B2.rows.getD p [] = (B.rows.getD p []).map fun x => sv * x := by rw [er, getD_set (by rw [rowsN_len]; omega), if_pos rfl]
      repeat walk_at "b"
      rw [eb]
      refine dr_I (wmul (a := 10) hsz hb3) ?_
      repeat walk_at "b"
      refine dg_sub' ?_
      repeat walk_at "b"
      refine dr_rowsO O2 (n := p) (by omega) ?_
      have rp := O2.row p (by omega)
      rw [erp] at rp
      refine ⟨_, _, rfl, rp, ?_⟩
      repeat walk_at "b"
      refine ⟨q, rfl, rfl, by rw [List.length_map, List.length_map, hlp]; omega, ?_⟩
      have O3 := O2.setRow (i := p) (by omega) (((B.rows.getD p []).map fun x => sv * x).set q (sv * B.bottom))
      rw [show brow (((B.rows.getD p []).map fun x => sv * x).set q (sv * B.bottom)) = Ow.lst ((((B.rows.getD p []).map fun x => sv * x).map Dt.int).set q (Dt.int (sv * B.bottom))) by unfold brow; rw [List.map_set]] at O3
      generalize hw3 : ow2.put (rs2[p]'(by omega)) (Ow.lst ((((B.rows.getD p []).map fun x => sv * x).map Dt.int).set q (Dt.int (sv * B.bottom)))) = ow3 at O3
      try rw [hw3]
      repeat walk_at "b"
      refine dx_fld (T.cls "Board" (by decide +kernel)).1 (T.noat "Board" "bottom" (by decide +kernel)) ?_
      repeat walk_at "b"
      refine dr_I (wmul (a := 10) hsz ((hb1 p).get q)) ?_
      repeat walk_at "b"
      refine ⟨a, _, rfl, O3.self, by simp [bfs], ?_⟩
      have O4 := O3.setBottom (sv * ent B p q)
      rw [show ∀ B' : Bd, bfs { B' with bottom := sv * ent B p q } a1 a2 a3 = putD "bottom" (.int (sv * ent B p q)) (bfs B' a1 a2 a3) from fun B' => by simp [putD, bfs]] at O4
      generalize hw4 : ow3.put a _ = ow4 at O4
      try rw [hw4]
      repeat walk_at "b"
      refine dr_ints O4.aside (n := p) (by show p < B2.aside.length; rw [es, S.aside]; exact hp) ?_
      repeat walk_at "b"
      refine dr_ints O4.above (n := q) (by show q < B2.above.length; rw [ea, S.above]; exact hq) ?_
      repeat walk_at "b"
      refine dg_sub' ?_
      repeat walk_at "b"
      refine ⟨a1, _, rfl, O4.above, ?_⟩
      repeat walk_at "b"
      refine ⟨q, rfl, rfl, by rw [List.length_map]; show q < B2.above.length; rw [ea, S.above]; exact hq, ?_⟩
      have O5 := O4.setAbove (B2.above.set q (B2.aside.getD p 0))
      rw [show brow (B2.above.set q (B2.aside.getD p 0)) = Ow.lst ((B2.above.map Dt.int).set q (Dt.int (B2.aside.getD p 0))) by unfold brow; rw [List.map_set]] at O5
      generalize hw5 : ow4.put a1 _ = ow5 at O5
      refine dgs_cons ?_
      refine dg_sub' ?_
      repeat walk_at "b"
      refine ⟨a3, _, rfl, O5.aside, ?_⟩
      repeat walk_at "b"
      refine ⟨p, rfl, rfl, by rw [List.length_map]; show p < B2.aside.length; rw [es, S.aside]; exact hp, ?_⟩
      have O6 := O5.setAside (B2.aside.set p (B2.above.getD q 0))
      rw [show brow (B2.aside.set p (B2.above.getD q 0)) = Ow.lst ((B2.aside.map Dt.int).set p (Dt.int (B2.above.getD q 0))) by unfold brow; rw [List.map_set]] at O6
      refine dgs_nil ?_
      refine endD_all ?_
      refine qd _ rs2 ?_
      have eE : ({ bottom := sv * ent B p q, above := B2.above.set q (B2.aside.getD p 0), aside := B2.aside.set p (B2.above.getD q 0), rows := B2.rows.set p (((B.rows.getD p []).map fun x => sv * x).set q (sv * B.bottom)), base := B2.base } : Bd) = exch B p q := by
        have e5 : B2.rows.set p (((B.rows.getD p []).map fun x => sv * x).set q (sv * B.bottom)) = (exch B p q).rows := by
          rw [er, List.set_set, ← hsv]
          exact rowsN_end (by omega) (by omega)
        rw [e5, ea, es, ebs, ← hsv]
        rfl
      rw [← eE]
      exact O6
end
end Cab
/-! W4d -/
set_option Elab.async false
set_option linter.all false
set_option maxRecDepth 100000
set_option maxHeartbeats 4000000
namespace Cab
open PySem PySem.Spec PyProof.Rows L2 DL
local macro_rules | `(tactic| walk_at "d") => `(tactic| first
  | with_reducible refine dx_seq ?_ | with_reducible refine dx_ret ?_ | with_reducible refine dx_asg ?_ | ((with_reducible refine dg_name ?_); dsimp only [List.set])
  | with_reducible refine de_op ?_ | ((with_reducible refine' de_var ?h1 ?_); (case h1 => exact rfl)) | with_reducible refine de_int ?_ | with_reducible refine da_cons ?_ | with_reducible refine da_nil ?_
  | ((with_reducible refine' dr_xT ?h1 ?_); (case h1 => exact rfl)) | ((with_reducible refine' dr_xL ?h1 ?_); (case h1 => exact rfl)) | with_reducible refine dr_I0 ?_ | with_reducible refine dr_I0b ?_ | with_reducible refine de_callP ?_ | with_reducible refine de_callA ?_
  | with_reducible refine de_cb ?_ | with_reducible refine de_un ?_ | with_reducible refine du_I ?_ | with_reducible refine de_bl ?_ | with_reducible refine de_non ?_ | with_reducible refine de_str ?_ | with_reducible refine de_ty ?_
  | with_reducible refine dr_eqI ?_ | with_reducible refine dr_neI ?_ | with_reducible refine dr_eqS ?_ | with_reducible refine dr_isN ?_ | with_reducible refine dr_notN ?_
  | with_reducible refine dt_and ?_ | with_reducible refine dt_or ?_ | with_reducible refine dt_not ?_ | with_reducible refine de_if ?_ | with_reducible refine de_andV ?_ | with_reducible refine de_orV ?_ | with_reducible refine de_notV ?_
  | ((with_reducible refine dt_test ?_)) | ((with_reducible refine dt_B ?_))
  | with_reducible refine dx_par' ?_ | with_reducible refine dx_par3' ?_ | with_reducible refine ex_bl ?_ | with_reducible refine ex_int ?_ | with_reducible refine isi_int ?_ | with_reducible refine isi_intB ?_ | with_reducible refine isi_tup ?_ | with_reducible refine isi_tupS ?_ | with_reducible refine isi_str ?_ | with_reducible refine de_chain ?_ | with_reducible refine dt_chain ?_ | with_reducible refine iteT ?_ | with_reducible refine iteF ?_ | with_reducible refine dx_if ?_ | with_reducible refine dx_drop ?_ | with_reducible refine dx_cont ?_ | with_reducible refine dx_next ?_
  | with_reducible refine dc_abs ?_ | with_reducible refine dc_lenT ?_ | with_reducible refine dc_lenL ?_ | with_reducible refine dc_int ?_ | with_reducible refine dc_max2 ?_ | with_reducible refine dc_min2 ?_ | with_reducible refine dc_tupL ?_
  | with_reducible refine de_fldF ?_ ?_ ?_ | with_reducible refine de_tup ?_ | ((with_reducible refine len_ok ?h1 ?_); (case h1 => exact rfl))
  | ((with_reducible refine iteT' ?h1 ?_); (case h1 => rfl)) | ((with_reducible refine iteF' ?h1 ?_); (case h1 => rfl))
  | with_reducible refine ex_int2 ?_ | ((with_reducible refine' dg_tup ?h1 ?_); (case h1 => rfl)) | with_reducible refine dgs_cons ?_ | with_reducible refine dgs_nil ?_ | with_reducible refine dc_lenX ?_ | with_reducible refine dr_inX ?_
  | dsimp only [List.set])
/-- a comprehension's targets -/
local macro_rules | `(tactic| walk_at "w") => `(tactic| repeat first
  | exact wp_name (by simp) | exact mo_name | exact wps_nil | exact mos_nil
  | refine wp_tup ?_ | refine wps_cons ?_ ?_ ?_ ?_ | refine mo_tup ?_ | refine mos_cons ?_ ?_)
/-- ends that are told by a value: a bool, a pair -/
local macro_rules | `(tactic| walk_at "e") => `(tactic| first
  | walk_at "d"
  | ((with_reducible refine Exists.intro _ (And.intro rfl ?_))))
section
variable {P : Program} {w : World} {K : PySem.W.Frag} {mg : Str → Option Value} {base : Heap}
open Tab Term
local macro_rules | `(tactic| walk_at "b") => `(tactic| first
  | with_reducible refine fldB_bottom (by assumption) ?_ | with_reducible refine fldB_above (by assumption) ?_ | with_reducible refine fldB_rows (by assumption) ?_ | with_reducible refine fldB_aside (by assumption) ?_ | with_reducible refine fldB_base (by assumption) ?_
  | with_reducible refine ⟨_, _, _, _, _, _, rfl, (by assumption), ?_⟩
  | with_reducible refine de_methA ?_
  | walk_at "d")
/-! ### the board: the tightest row -/
theorem mul_cancel_lt {a b c : Int} (hc : 0 < c) (h : a * c < b * c) : a < b := Int.lt_of_mul_lt_mul_right h (Int.le_of_lt hc)
theorem mul_cancel_le {a b c : Int} (hc : 0 < c) (h : a * c ≤ b * c) : a ≤ b := Int.le_of_mul_le_mul_right h hc
/-- the best among the first n rows -/
structure Best (B : Bd) (q n p : Nat) : Prop where
  lt : p < n
  pos : 0 < ent B p q
  tight : ∀ i, i < n → 0 < ent B i q → ent B p 6 * ent B i q ≤ ent B i 6 * ent B p q
  tie : ∀ i, i < n → 0 < ent B i q → ent B p 6 * ent B i q = ent B i 6 * ent B p q → B.aside.getD p 0 ≤ B.aside.getD i 0
theorem Best.keep {B : Bd} {q n p : Nat} (h : Best B q n p) (hn : ent B n q ≤ 0) : Best B q (n + 1) p :=
  ⟨by have := h.lt; omega, h.pos, fun i hi hp => by
    by_cases e : i = n
    · subst e; omega
    · exact h.tight i (by omega) hp, fun i hi hp => by
    by_cases e : i = n
    · subst e; omega
    · exact h.tie i (by omega) hp⟩
theorem Best.first {B : Bd} {q n : Nat} (h : ∀ i, i < n → ent B i q ≤ 0) (hp : 0 < ent B n q) : Best B q (n + 1) n :=
  ⟨by omega, hp, fun i hi h1 => by
    by_cases e : i = n
    · subst e; exact Int.le_refl _
    · have := h i (by omega); omega, fun i hi h1 _ => by
    by_cases e : i = n
    · subst e; exact Int.le_refl _
    · have := h i (by omega); omega⟩
theorem Best.better {B : Bd} {q n p : Nat} (h : Best B q n p) (hn : 0 < ent B n q) (lt : ent B n 6 * ent B p q < ent B p 6 * ent B n q) : Best B q (n + 1) n := by
  have key : ∀ i, i < n → 0 < ent B i q → ent B n 6 * ent B i q < ent B i 6 * ent B n q := fun i hi hp => by
    have t := h.tight i hi hp
    have a1 := Int.mul_lt_mul_of_pos_right lt hp
    have a2 := Int.mul_le_mul_of_nonneg_right t (Int.le_of_lt hn)
    refine mul_cancel_lt h.pos ?_
    grind
  refine ⟨by omega, hn, fun i hi hp => ?_, fun i hi hp e => ?_⟩
  · by_cases e : i = n
    · subst e; exact Int.le_refl _
    · exact Int.le_of_lt (key i (by omega) hp)
  · by_cases e' : i = n
    · subst e'; exact Int.le_refl _
    · have := key i (by omega) hp; omega
theorem Best.earlier {B : Bd} {q n p : Nat} (h : Best B q n p) (hn : 0 < ent B n q) (eq : ent B n 6 * ent B p q = ent B p 6 * ent B n q) (lt : B.aside.getD n 0 < B.aside.getD p 0) : Best B q (n + 1) n := by
  refine ⟨by omega, hn, fun i hi hp => ?_, fun i hi hp e => ?_⟩
  · by_cases e : i = n
    · subst e; exact Int.le_refl _
    · have t := h.tight i (by omega) hp
      have a2 := Int.mul_le_mul_of_nonneg_right t (Int.le_of_lt hn)
      refine mul_cancel_le h.pos ?_
      grind
  · by_cases e' : i = n
    · subst e'; exact Int.le_refl _
    · have t := h.tie i (by omega) hp ?_
      · omega
      · have : (ent B p 6 * ent B i q) * ent B n q = (ent B i 6 * ent B p q) * ent B n q := by grind
        exact Int.eq_of_mul_eq_mul_right (by omega) this
theorem Best.stay {B : Bd} {q n p : Nat} (h : Best B q n p) (hn : 0 < ent B n q) (nlt : ¬ ent B n 6 * ent B p q < ent B p 6 * ent B n q) (ne : ¬ (ent B n 6 * ent B p q = ent B p 6 * ent B n q ∧ B.aside.getD n 0 < B.aside.getD p 0)) : Best B q (n + 1) p := by
  refine ⟨by have := h.lt; omega, h.pos, fun i hi hp => ?_, fun i hi hp e => ?_⟩
  · by_cases e : i = n
    · subst e; omega
    · exact h.tight i (by omega) hp
  · by_cases e' : i = n
    · subst e'
      by_cases z : B.aside.getD i 0 < B.aside.getD p 0
      · exact absurd ⟨e.symm, z⟩ ne
      · omega
    · exact h.tie i (by omega) hp e
def bestD (B : Bd) (q : Nat) : Option Nat → Dt
  | none => .non
  | some p => .tup [.int (ent B p 6), .int (ent B p q), .int (B.aside.getD p 0), .int ((p : Nat) : Int)]
def BestO (B : Bd) (q n : Nat) : Option Nat → Prop
  | none => ∀ i, i < n → ent B i q ≤ 0
  | some p => Best B q n p
def pr_Board_tightest (K : PySem.W.Frag) : Pr := fun ds ob QD => ∃ a a1 a2 a3 rs B M q, ds = [.ptr a, .int ((q : Nat) : Int)] ∧ BO K ob a a1 a2 a3 rs B ∧ Shp 6 M B ∧ BB B ∧ M ≤ 1000 ∧ q < 6 ∧ (∃ i, i < M ∧ 0 < ent B i q) ∧ ∀ p, Best B q M p → QD (.int ((p : Nat) : Int)) ob
theorem len_Board_tightest {ds ob Q} (p : pr_Board_tightest K ds ob Q) : ds.length = 2 := by obtain ⟨_, _, _, _, _, _, _, _, rfl, _⟩ := p; rfl
theorem sc_Board_tightest : FnScope ["self", "column", "best", "place", "entry", "end", "key"] ["self", "column"] (defScope (inClass (topS 58) 6)) := ⟨rfl, rfl, rfl, by decide +kernel, rfl, by decide +kernel, by decide +kernel⟩
theorem ok_Board_tightest (T : Txt K mg base) : CalM P w K mg base 2 "Board" "tightest" ["self", "column"] (spD K (pr_Board_tightest K)) := by
  refine cal_mkM T (by decide +kernel) (T.me "Board" "tightest" "Board.tightest" 58 6 (by decide +kernel)) sc_Board_tightest (fun _ _ _ _ _ _ us hl => match us, hl with | [_, _], _ => rfl) (fun ds ob Q p => len_Board_tightest p) fun cdv A outer s H f E hr =>
    ⟨_, (pss_cons (ps_set (i := 2) sc_Board_tightest.nd rfl (.inl rfl) pe_non)
      (pss_cons (ps_for PassesOwn.never rfl (pi_range1 (by rfl) (T.free "range" (by decide +kernel)) (pa_cons (pe_cbK (r := DL.rLen K) call_len' boot_len (T.free "len" (by decide +kernel)) (by rfl) (pa_cons (pe_fldK (K := K) rfl (pv 0)) pa_nil)) pa_nil)) (pg_name (i := 3) sc_Board_tightest.nd rfl (.inl rfl))
      (pss_cons (ps_par (i := 4) (j := 5) rfl sc_Board_tightest.nd rfl rfl (by decide) rfl rfl (pa_cons (pe_ixK (K := K) rfl (pe_ixK (K := K) rfl (pe_fldK (K := K) rfl (pv 0)) (pv 3)) (pv 1)) (pa_cons (pe_ixK (K := K) rfl (pe_ixK (K := K) rfl (pe_fldK (K := K) rfl (pv 0)) (pv 3)) (pe_un un_neg pe_int)) pa_nil)) (by rfl))
      (pss_one (ps_if (pt_cmpR op_gt (pv 4) pe_int (nomark _)) (pss_cons (ps_set (i := 6) sc_Board_tightest.nd rfl (.inl rfl) (pe_tup (pa_cons (pv 5) (pa_cons (pv 4) (pa_cons (pe_ixK (K := K) rfl (pe_fldK (K := K) rfl (pv 0)) (pv 3)) (pa_cons (pv 3) pa_nil))))))
      (pss_one (ps_if (PW.pt (pw_or (pt_cmpR op_isN (pv 2) pe_non (nomark _)) (pw_or (pt_cmpR op_lt (pe_op op_mulW (pv 5) (pe_ixK (K := K) rfl (pv 2) pe_int)) (pe_op op_mulW (pe_ixK (K := K) rfl (pv 2) pe_int) (pv 4)) (nomark _)) (pw_or1 (pt_val (pe_calM (K := K) rfl (ok_Board_is_earlier (K := K) T) (by decide) (hr.mono (by decide)) (pv 0) (pa_cons (pv 6) (pa_cons (pv 2) pa_nil)))))))) (pss_one (ps_set (i := 2) sc_Board_tightest.nd rfl (.inl rfl) (pv 6))) pss_nil))) pss_nil))))
      (pss_one (ps_ret (pe_ixK (K := K) rfl (pv 2) pe_int))))), fun b ds ob Q p => ?_⟩
  obtain ⟨a, a1, a2, a3, rs, B, M, q, rfl, O, S, hB, hM, hq, hex, qd⟩ := p
  simp only [startD, List.map_nil]
  have hrl : rs.length = M + 1 := by rw [O.len]; exact S.rows
  obtain ⟨hb1, hb2, hb3⟩ := hB
  have eb : ∀ i j, (ent B i j).natAbs < 2 ^ 1000 := fun i j => (hb1 i).get j
  repeat walk_at "b"
  refine dx_for (di_rng1 ?_)
  repeat walk_at "b"
  refine dc_lenO O.aside ?_
  repeat walk_at "b"
  rw [List.length_map, S.aside]
  refine ⟨(M : Int), rfl, by omega, by omega, fun n d => ∃ o x y z w, d = ⟨[some (.ptr a), some (.int (q : Nat)), some (bestD B q o), x, y, z, w], ob⟩ ∧ BestO B q n o, ⟨none, _, _, _, _, rfl, fun i hi => by omega⟩, fun _ _ _ _ => trivial, ?_, ?_⟩
  · rintro n x d hx ⟨o, u1, u2, u3, u4, rfl, ho⟩
    obtain ⟨rfl, hn⟩ := rangeD_get hx
    have hn : n < M := by omega
    rw [Int.zero_add]
    repeat walk_at "b"
    refine dr_rowsO O (n := n) (by omega) ?_
    repeat walk_at "b"
    refine dr_ints (O.row n (by omega)) (n := q) (by rw [S.row n (by omega)]; omega) ?_
    repeat walk_at "b"
    refine dr_rowsO O (n := n) (by omega) ?_
    repeat walk_at "b"
    refine dr_intsL (n := 6) (O.row n (by omega)) (S.row n (by omega)) ?_
    repeat walk_at "b"
    by_cases hpos : 0 < ent B n q
    · refine iteT' (decide_eq_true hpos) ?_
      repeat walk_at "b"
      refine dr_ints O.aside (n := n) (by rw [S.aside]; exact hn) ?_
      repeat walk_at "b"
      cases o with
      | none =>
        simp only [bestD]
        repeat walk_at "b"
        simp only [if_true]
        repeat walk_at "b"
        exact ⟨some n, _, _, _, _, rfl, Best.first ho hpos⟩
      | some p =>
        have ho : Best B q n p := ho
        simp only [bestD]
        repeat walk_at "b"
        refine dr_I (wmul (eb n 6) (eb p q)) ?_
        repeat walk_at "b"
        refine dr_I (wmul (eb p 6) (eb n q)) ?_
        repeat walk_at "b"
        by_cases hlt : ent B n 6 * ent B p q < ent B p 6 * ent B n q
        · refine iteT' (decide_eq_true hlt) ?_
          repeat walk_at "b"
          exact ⟨some n, _, _, _, _, rfl, Best.better ho hpos hlt⟩
        · refine iteF' (decide_eq_false hlt) ?_
          repeat walk_at "b"
          refine ⟨.inl ⟨a, _, rfl, O.self, by rfl⟩, ?_⟩
          repeat walk_at "b"
          refine ⟨a, _, _, _, _, _, _, _, _, rfl, eb n 6, eb n q, eb p 6, eb p q, ?_⟩
          repeat walk_at "b"
          by_cases he : ent B n 6 * ent B p q = ent B p 6 * ent B n q ∧ B.aside.getD n 0 < B.aside.getD p 0
          · refine iteT' (decide_eq_true he) ?_
            repeat walk_at "b"
            exact ⟨some n, _, _, _, _, rfl, Best.earlier ho hpos he.1 he.2⟩
          · refine iteF' (decide_eq_false he) ?_
            repeat walk_at "b"
            exact ⟨some p, _, _, _, _, rfl, Best.stay ho hpos hlt he⟩
    · refine iteF' (decide_eq_false hpos) ?_
      repeat walk_at "b"
      refine ⟨o, _, _, _, _, rfl, ?_⟩
      cases o with
      | none =>
        intro i hi
        by_cases e : i = n
        · subst e; omega
        · exact ho i (by omega)
      | some p => exact Best.keep ho (by omega)
  · rintro d ⟨o, u1, u2, u3, u4, rfl, ho⟩
    rw [rangeD_len, show ((M : Int)).toNat = M by omega] at ho
    cases o with
    | none =>
      obtain ⟨i, hi, hp⟩ := hex
      have := ho i hi
      omega
    | some p =>
      simp only [bestD]
      repeat walk_at "b"
      exact endD_all (qd p ho)
end
end Cab
/-! W4e -/
set_option Elab.async false
set_option linter.all false
set_option maxRecDepth 100000
set_option maxHeartbeats 4000000
namespace Cab
open PySem PySem.Spec PyProof.Rows L2 DL
local macro_rules | `(tactic| walk_at "d") => `(tactic| first
  | with_reducible refine dx_seq ?_ | with_reducible refine dx_ret ?_ | with_reducible refine dx_asg ?_ | ((with_reducible refine dg_name ?_); dsimp only [List.set])
  | with_reducible refine de_op ?_ | ((with_reducible refine' de_var ?h1 ?_); (case h1 => exact rfl)) | with_reducible refine de_int ?_ | with_reducible refine da_cons ?_ | with_reducible refine da_nil ?_
  | ((with_reducible refine' dr_xT ?h1 ?_); (case h1 => exact rfl)) | ((with_reducible refine' dr_xL ?h1 ?_); (case h1 => exact rfl)) | with_reducible refine dr_I0 ?_ | with_reducible refine dr_I0b ?_ | with_reducible refine de_callP ?_ | with_reducible refine de_callA ?_
  | with_reducible refine de_cb ?_ | with_reducible refine de_un ?_ | with_reducible refine du_I ?_ | with_reducible refine de_bl ?_ | with_reducible refine de_non ?_ | with_reducible refine de_str ?_ | with_reducible refine de_ty ?_
  | with_reducible refine dr_eqI ?_ | with_reducible refine dr_neI ?_ | with_reducible refine dr_eqS ?_ | with_reducible refine dr_isN ?_ | with_reducible refine dr_notN ?_
  | with_reducible refine dt_and ?_ | with_reducible refine dt_or ?_ | with_reducible refine dt_not ?_ | with_reducible refine de_if ?_ | with_reducible refine de_andV ?_ | with_reducible refine de_orV ?_ | with_reducible refine de_notV ?_
  | ((with_reducible refine dt_test ?_)) | ((with_reducible refine dt_B ?_))
  | with_reducible refine dx_par' ?_ | with_reducible refine dx_par3' ?_ | with_reducible refine ex_bl ?_ | with_reducible refine ex_int ?_ | with_reducible refine isi_int ?_ | with_reducible refine isi_intB ?_ | with_reducible refine isi_tup ?_ | with_reducible refine isi_tupS ?_ | with_reducible refine isi_str ?_ | with_reducible refine de_chain ?_ | with_reducible refine dt_chain ?_ | with_reducible refine iteT ?_ | with_reducible refine iteF ?_ | with_reducible refine dx_if ?_ | with_reducible refine dx_drop ?_ | with_reducible refine dx_cont ?_ | with_reducible refine dx_next ?_
  | with_reducible refine dc_abs ?_ | with_reducible refine dc_lenT ?_ | with_reducible refine dc_lenL ?_ | with_reducible refine dc_int ?_ | with_reducible refine dc_max2 ?_ | with_reducible refine dc_min2 ?_ | with_reducible refine dc_tupL ?_
  | with_reducible refine de_fldF ?_ ?_ ?_ | with_reducible refine de_tup ?_ | ((with_reducible refine len_ok ?h1 ?_); (case h1 => exact rfl))
  | ((with_reducible refine iteT' ?h1 ?_); (case h1 => rfl)) | ((with_reducible refine iteF' ?h1 ?_); (case h1 => rfl))
  | with_reducible refine ex_int2 ?_ | ((with_reducible refine' dg_tup ?h1 ?_); (case h1 => rfl)) | with_reducible refine dgs_cons ?_ | with_reducible refine dgs_nil ?_ | with_reducible refine dc_lenX ?_ | with_reducible refine dr_inX ?_
  | dsimp only [List.set])
/-- a comprehension's targets -/
local macro_rules | `(tactic| walk_at "w") => `(tactic| repeat first
  | exact wp_name (by simp) | exact mo_name | exact wps_nil | exact mos_nil
  | refine wp_tup ?_ | refine wps_cons ?_ ?_ ?_ ?_ | refine mo_tup ?_ | refine mos_cons ?_ ?_)
/-- ends that are told by a value: a bool, a pair -/
local macro_rules | `(tactic| walk_at "e") => `(tactic| first
  | walk_at "d"
  | ((with_reducible refine Exists.intro _ (And.intro rfl ?_))))
section
variable {P : Program} {w : World} {K : PySem.W.Frag} {mg : Str → Option Value} {base : Heap}
open Tab Term
local macro_rules | `(tactic| walk_at "b") => `(tactic| first
  | with_reducible refine fldB_bottom (by assumption) ?_ | with_reducible refine fldB_above (by assumption) ?_ | with_reducible refine fldB_rows (by assumption) ?_ | with_reducible refine fldB_aside (by assumption) ?_ | with_reducible refine fldB_base (by assumption) ?_
  | with_reducible refine ⟨_, _, _, _, _, _, rfl, (by assumption), ?_⟩
  | with_reducible refine de_methA ?_
  | walk_at "d")
/-! ### the board: settle and climb -/
theorem bnd_small : bnd 6 (2 ^ 40) < 2 ^ 1000 := by decide +kernel
theorem bb_of {M : Nat} {B : Bd} {φ : Nat → Nat → Int} (S : Shp 6 M B) (G : Good 6 M φ (tbOf 6 M B)) (hφ : ∀ v c, c ≤ 6 → (φ v c).natAbs ≤ 2 ^ 40) : BB B := by
  obtain ⟨g1, g2⟩ := G.bound (Nat.pos_of_ne_zero (by decide)) hφ
  refine ⟨fun i x hx => ?_, G.hd, Nat.lt_of_le_of_lt g1 bnd_small⟩
  obtain ⟨j, hj, e⟩ := List.mem_iff_getElem.mp hx
  by_cases hi : i ≤ M
  · have hl := S.row i hi
    have := g2 i j hi (by omega)
    have e2 : (tbOf 6 M B).T i j = x := by
      show (B.rows.getD i []).getD j 0 = x
      rw [List.getD_eq_getElem?_getD, List.getElem?_eq_getElem hj, e]; rfl
    rw [e2] at this
    exact Nat.lt_of_le_of_lt this bnd_small
  · exfalso
    have : B.rows.getD i [] = [] := by rw [List.getD_eq_getElem?_getD, List.getElem?_eq_none (by rw [S.rows]; omega)]; rfl
    rw [this] at hx
    cases hx
theorem as_le {M : Nat} {B : Bd} {p i : Nat} (hp : p < M) (hi : i < M) (h : B.aside.getD p 0 ≤ B.aside.getD i 0) : (tbOf 6 M B).as p ≤ (tbOf 6 M B).as i := by
  show (if p < M then _ else _) ≤ (if i < M then _ else _)
  rw [if_pos hp, if_pos hi]
  exact Int.toNat_le_toNat h
theorem ab_le {M : Nat} {B : Bd} {p i : Nat} (h : B.above.getD p 0 ≤ B.above.getD i 0) : (tbOf 6 M B).ab p ≤ (tbOf 6 M B).ab i := Int.toNat_le_toNat h
/-- a board and what is kept -/
structure Brd (M : Nat) (B : Bd) (φ : Nat → Nat → Int) : Prop where
  shp : Shp 6 M B
  big : M ≤ 100
  vars : Vars 6 M (tbOf 6 M B)
  good : Good 6 M φ (tbOf 6 M B)
  bd : ∀ v c, c ≤ 6 → (φ v c).natAbs ≤ 2 ^ 40
theorem Brd.kept {M : Nat} {B : Bd} {φ : Nat → Nat → Int} (h : Brd M B φ) : Kept 6 M (tbOf 6 M B) (tbOf 6 M B) φ := ⟨h.vars, h.good, fun _ _ => Iff.rfl⟩
theorem Brd.step {M : Nat} {B : Bd} {φ : Nat → Nat → Int} (h : Brd M B φ) {p q : Nat} (hp : p < M) (hq : q < 6) (h0 : ent B p q ≠ 0) : Brd M (exch B p q) φ ∧ Piv 6 M (tbOf 6 M B) p q (tbOf 6 M (exch B p q)) := by
  have P := exch_piv h.shp h.good hp hq h0
  exact ⟨⟨h.shp.exch hp hq, h.big, h.vars.piv P, h.good.piv P, h.bd⟩, P⟩
def pr_Board_settle (K : PySem.W.Frag) : Pr := fun ds ob QD => ∃ a a1 a2 a3 rs B M φ, ds = [.ptr a] ∧ BO K ob a a1 a2 a3 rs B ∧ Brd M B φ ∧
  (∀ ob' rs' B' k, BO K ob' a a1 a2 a3 rs' B' → Brd M B' φ → Rch 6 M (StepS 6 M) (tbOf 6 M B) k (tbOf 6 M B') → B'.base = B.base → Feas 6 M (tbOf 6 M B') → QD .non ob') ∧
  ∀ ob' rs' B' k p, BO K ob' a a1 a2 a3 rs' B' → Brd M B' φ → Rch 6 M (StepS 6 M) (tbOf 6 M B) k (tbOf 6 M B') → p < M → ent B' p 6 < 0 → (∀ j, j < 6 → 0 ≤ ent B' p j) → QD (.int ((p : Nat) : Int)) ob'
theorem len_Board_settle {ds ob Q} (p : pr_Board_settle K ds ob Q) : ds.length = 1 := by obtain ⟨_, _, _, _, _, _, _, _, rfl, _⟩ := p; rfl
def SetI (K : PySem.W.Frag) (a a1 a2 a3 : Addr) (M : Nat) (φ : Nat → Nat → Int) (B : Bd) (m : Nat) (d : DL.St) : Prop :=
  ∃ ow rs' B' k o x, d = ⟨[some (.ptr a), some o, x], ow⟩ ∧ BO K ow a a1 a2 a3 rs' B' ∧ Brd M B' φ ∧ Rch 6 M (StepS 6 M) (tbOf 6 M B) k (tbOf 6 M B') ∧ B'.base = B.base ∧ m = 2 ^ (6 + M) - k ∧ ((o = .non ∧ Feas 6 M (tbOf 6 M B')) ∨ ∃ p, p < M ∧ o = .int ((p : Nat) : Int) ∧ ent B' p 6 < 0 ∧ ∀ i, i < M → ent B' i 6 < 0 → B'.aside.getD p 0 ≤ B'.aside.getD i 0)
theorem sc_Board_settle : FnScope ["self", "place", "column"] ["self"] (defScope (inClass (topS 58) 5)) := ⟨rfl, rfl, rfl, by decide +kernel, rfl, by decide +kernel, by decide +kernel⟩
theorem ok_Board_settle (T : Txt K mg base) : CalM P w K mg base 3 "Board" "settle" ["self"] (spD K (pr_Board_settle K)) := by
  refine cal_mkM T (by decide +kernel) (T.me "Board" "settle" "Board.settle" 58 5 (by decide +kernel)) sc_Board_settle (fun _ _ _ _ _ _ us hl => match us, hl with | [_], _ => rfl) (fun ds ob Q p => len_Board_settle p) fun cdv A outer s H f E hr =>
    ⟨_, (pss_cons (ps_set (i := 1) sc_Board_settle.nd rfl (.inl rfl) (pe_calM0 (K := K) rfl (ok_Board_lacking (K := K) T) (by decide) (hr.mono (by decide)) (pv 0)))
      (pss_cons (ps_while PassesOwn.never (pt_cmpR op_notN (pv 1) pe_non (nomark _)) (pss_cons (ps_set (i := 2) sc_Board_settle.nd rfl (.inl rfl) (pe_calM (K := K) rfl (ok_Board_first_below (K := K) T) (by decide) (hr.mono (by decide)) (pv 0) (pa_cons (pe_ixK (K := K) rfl (pe_fldK (K := K) rfl (pv 0)) (pv 1)) pa_nil)))
      (pss_cons (ps_if (pt_cmpR op_isN (pv 2) pe_non (nomark _)) (pss_one (ps_ret (pv 1))) pss_nil)
      (pss_cons (ps_expr (pe_calM (K := K) rfl (ok_Board_exchange (K := K) T) (by decide) (hr.mono (by decide)) (pv 0) (pa_cons (pv 1) (pa_cons (pv 2) pa_nil))))
      (pss_one (ps_set (i := 1) sc_Board_settle.nd rfl (.inl rfl) (pe_calM0 (K := K) rfl (ok_Board_lacking (K := K) T) (by decide) (hr.mono (by decide)) (pv 0))))))))
      (pss_one (ps_ret pe_non)))), fun b ds ob Q p => ?_⟩
  obtain ⟨a, a1, a2, a3, rs, B, M, φ, rfl, O, hB, q1, q2⟩ := p
  simp only [startD, List.map_nil]
  have hM := hB.big
  have lack : ∀ (ow : Own) (rs' : List Addr) (B' : Bd), BO K ow a a1 a2 a3 rs' B' → Brd M B' φ → ∀ QD : Dt → Own → Prop, (∀ o, ((o = .non ∧ Feas 6 M (tbOf 6 M B')) ∨ ∃ p, p < M ∧ o = .int ((p : Nat) : Int) ∧ ent B' p 6 < 0 ∧ ∀ i, i < M → ent B' i 6 < 0 → B'.aside.getD p 0 ≤ B'.aside.getD i 0) → QD o ow) → pr_Board_lacking K [.ptr a] ow QD :=
    fun ow rs' B' O' hB' QD z => ⟨a, a1, a2, a3, rs', B', M, rfl, O', hB'.shp, by omega, fun z1 => z _ (.inl ⟨rfl, z1⟩), fun p h1 h2 h3 => z _ (.inr ⟨p, h1, rfl, h2, h3⟩)⟩
  refine dx_seq ?_
  refine dx_asg ?_
  refine de_methA ?_
  repeat walk_at "b"
  refine ⟨.inl ⟨a, _, rfl, O.self, by rfl⟩, ?_⟩
  repeat walk_at "b"
  refine lack ob rs B O hB _ fun o ho => ?_
  refine dg_name ?_
  dsimp only [List.set]
  refine dx_seq ?_
  refine dx_while (SetI K a a1 a2 a3 M φ B) (2 ^ (6 + M) - 0) ⟨ob, rs, B, 0, o, none, rfl, O, hB, .start, rfl, rfl, ho⟩ ?_
  rintro m d ⟨ow, rs', B', k, o, x, rfl, O', hB', hR, hbase, hm, ho⟩
  have hk := hR.settle hB.vars
  have hrl : rs'.length = M + 1 := by rw [O'.len]; exact hB'.shp.rows
  have nog : ∀ z : m = 2 ^ (6 + M) - k, True := fun _ => trivial
  rcases ho with ⟨rfl, hF⟩ | ⟨p, hp, rfl, hlow, hall⟩
  · repeat walk_at "b"
    exact endD_all (q1 ow rs' B' k O' hB' hR hbase hF)
  · repeat walk_at "b"
    refine ⟨.inl ⟨a, _, rfl, O'.self, by rfl⟩, ?_⟩
    repeat walk_at "b"
    refine dr_rowsO O' (n := p) (by omega) ?_
    repeat walk_at "b"
    refine ⟨a, a1, a2, a3, rs', B', M, rs'[p]'(by omega), B'.rows.getD p [], rfl, O', hB'.shp, O'.row p (by omega), hB'.shp.row p (by omega), fun hz => ?_, fun q hq hneg hfirst => ?_⟩
    · repeat walk_at "b"
      exact endD_all (q2 ow rs' B' k p O' hB' hR hp hlow hz)
    · repeat walk_at "b"
      refine ⟨.inl ⟨a, _, rfl, O'.self, by rfl⟩, ?_⟩
      repeat walk_at "b"
      have hneg : ent B' p q < 0 := hneg
      obtain ⟨hB2, P⟩ := hB'.step hp hq (show ent B' p q ≠ 0 by omega)
      refine ⟨a, a1, a2, a3, rs', B', M, p, q, rfl, O', hB'.shp, bb_of hB'.shp hB'.good hB'.bd, hp, hq, by omega, fun ow2 rs2 O2 => ?_⟩
      repeat walk_at "b"
      refine ⟨.inl ⟨a, _, rfl, O2.self, by rfl⟩, ?_⟩
      repeat walk_at "b"
      have R2 : Rch 6 M (StepS 6 M) (tbOf 6 M B) (k + 1) (tbOf 6 M (exch B' p q)) := .step hR ⟨hp, hlow, fun i hi hl => as_le hp hi (hall i hi hl), hq, hneg, fun j hj hn => ab_le (hfirst j hj hn)⟩ P
      refine lack ow2 rs2 _ O2 hB2 _ fun o' ho' => ?_
      repeat walk_at "b"
      exact ⟨2 ^ (6 + M) - (k + 1), by omega, ow2, rs2, _, k + 1, o', _, rfl, O2, hB2, R2, hbase, rfl, ho'⟩
end
end Cab
/-! W4f -/
set_option Elab.async false
set_option linter.all false
set_option maxRecDepth 100000
set_option maxHeartbeats 4000000
namespace Cab
open PySem PySem.Spec PyProof.Rows L2 DL
local macro_rules | `(tactic| walk_at "d") => `(tactic| first
  | with_reducible refine dx_seq ?_ | with_reducible refine dx_ret ?_ | with_reducible refine dx_asg ?_ | ((with_reducible refine dg_name ?_); dsimp only [List.set])
  | with_reducible refine de_op ?_ | ((with_reducible refine' de_var ?h1 ?_); (case h1 => exact rfl)) | with_reducible refine de_int ?_ | with_reducible refine da_cons ?_ | with_reducible refine da_nil ?_
  | ((with_reducible refine' dr_xT ?h1 ?_); (case h1 => exact rfl)) | ((with_reducible refine' dr_xL ?h1 ?_); (case h1 => exact rfl)) | with_reducible refine dr_I0 ?_ | with_reducible refine dr_I0b ?_ | with_reducible refine de_callP ?_ | with_reducible refine de_callA ?_
  | with_reducible refine de_cb ?_ | with_reducible refine de_un ?_ | with_reducible refine du_I ?_ | with_reducible refine de_bl ?_ | with_reducible refine de_non ?_ | with_reducible refine de_str ?_ | with_reducible refine de_ty ?_
  | with_reducible refine dr_eqI ?_ | with_reducible refine dr_neI ?_ | with_reducible refine dr_eqS ?_ | with_reducible refine dr_isN ?_ | with_reducible refine dr_notN ?_
  | with_reducible refine dt_and ?_ | with_reducible refine dt_or ?_ | with_reducible refine dt_not ?_ | with_reducible refine de_if ?_ | with_reducible refine de_andV ?_ | with_reducible refine de_orV ?_ | with_reducible refine de_notV ?_
  | ((with_reducible refine dt_test ?_)) | ((with_reducible refine dt_B ?_))
  | with_reducible refine dx_par' ?_ | with_reducible refine dx_par3' ?_ | with_reducible refine ex_bl ?_ | with_reducible refine ex_int ?_ | with_reducible refine isi_int ?_ | with_reducible refine isi_intB ?_ | with_reducible refine isi_tup ?_ | with_reducible refine isi_tupS ?_ | with_reducible refine isi_str ?_ | with_reducible refine de_chain ?_ | with_reducible refine dt_chain ?_ | with_reducible refine iteT ?_ | with_reducible refine iteF ?_ | with_reducible refine dx_if ?_ | with_reducible refine dx_drop ?_ | with_reducible refine dx_cont ?_ | with_reducible refine dx_next ?_
  | with_reducible refine dc_abs ?_ | with_reducible refine dc_lenT ?_ | with_reducible refine dc_lenL ?_ | with_reducible refine dc_int ?_ | with_reducible refine dc_max2 ?_ | with_reducible refine dc_min2 ?_ | with_reducible refine dc_tupL ?_
  | with_reducible refine de_fldF ?_ ?_ ?_ | with_reducible refine de_tup ?_ | ((with_reducible refine len_ok ?h1 ?_); (case h1 => exact rfl))
  | ((with_reducible refine iteT' ?h1 ?_); (case h1 => rfl)) | ((with_reducible refine iteF' ?h1 ?_); (case h1 => rfl))
  | with_reducible refine ex_int2 ?_ | ((with_reducible refine' dg_tup ?h1 ?_); (case h1 => rfl)) | with_reducible refine dgs_cons ?_ | with_reducible refine dgs_nil ?_ | with_reducible refine dc_lenX ?_ | with_reducible refine dr_inX ?_
  | dsimp only [List.set])
/-- a comprehension's targets -/
local macro_rules | `(tactic| walk_at "w") => `(tactic| repeat first
  | exact wp_name (by simp) | exact mo_name | exact wps_nil | exact mos_nil
  | refine wp_tup ?_ | refine wps_cons ?_ ?_ ?_ ?_ | refine mo_tup ?_ | refine mos_cons ?_ ?_)
/-- ends that are told by a value: a bool, a pair -/
local macro_rules | `(tactic| walk_at "e") => `(tactic| first
  | walk_at "d"
  | ((with_reducible refine Exists.intro _ (And.intro rfl ?_))))
section
variable {P : Program} {w : World} {K : PySem.W.Frag} {mg : Str → Option Value} {base : Heap}
open Tab Term
local macro_rules | `(tactic| walk_at "b") => `(tactic| first
  | with_reducible refine fldB_bottom (by assumption) ?_ | with_reducible refine fldB_above (by assumption) ?_ | with_reducible refine fldB_rows (by assumption) ?_ | with_reducible refine fldB_aside (by assumption) ?_ | with_reducible refine fldB_base (by assumption) ?_
  | with_reducible refine ⟨_, _, _, _, _, _, rfl, (by assumption), ?_⟩
  | with_reducible refine de_methA ?_
  | walk_at "d")
/-! ### the board: climb, what it tells -/
def CBd (M : Nat) : Nat := (2 * (bnd 6 (2 ^ 40) * (bnd 6 (2 ^ 40) * bnd 6 (2 ^ 40))) + 1) * 2 ^ (6 + M)
def Bdd (M : Nat) (S : Tb) : Prop := ∀ x, (∀ v, v < 6 + M → 0 ≤ x v) → Sol 6 M S x 0 → ∀ v, v < 6 + M → x v = 0
def pr_Board_climb (K : PySem.W.Frag) : Pr := fun ds ob QD => ∃ a a1 a2 a3 rs B M φ, ds = [.ptr a] ∧ BO K ob a a1 a2 a3 rs B ∧ Brd M B φ ∧ Feas 6 M (tbOf 6 M B) ∧ Bdd M (tbOf 6 M B) ∧
  ∀ ob' rs' B' k, BO K ob' a a1 a2 a3 rs' B' → Brd M B' φ → Rch 6 M (StepC 6 M) (tbOf 6 M B) k (tbOf 6 M B') → B'.base = B.base → Feas 6 M (tbOf 6 M B') → (∀ j, j < 6 → 0 ≤ ent B' M j) → QD .non ob'
theorem len_Board_climb {ds ob Q} (p : pr_Board_climb K ds ob Q) : ds.length = 1 := by obtain ⟨_, _, _, _, _, _, _, _, rfl, _⟩ := p; rfl
def CliO (M : Nat) (B' : Bd) (o : Dt) : Prop := (o = .non ∧ ∀ j, j < 6 → 0 ≤ ent B' M j) ∨ ∃ q, q < 6 ∧ o = .int ((q : Nat) : Int) ∧ ent B' M q < 0 ∧ ∀ j, j < 6 → ent B' M j < 0 → B'.above.getD q 0 ≤ B'.above.getD j 0
def CliI (K : PySem.W.Frag) (a a1 a2 a3 : Addr) (M : Nat) (φ : Nat → Nat → Int) (B : Bd) (m : Nat) (d : DL.St) : Prop :=
  ∃ ow rs' B' k o, d = ⟨[some (.ptr a), some o], ow⟩ ∧ BO K ow a a1 a2 a3 rs' B' ∧ Brd M B' φ ∧ Rch 6 M (StepC 6 M) (tbOf 6 M B) k (tbOf 6 M B') ∧ B'.base = B.base ∧ m = CBd M - k ∧ CliO M B' o
theorem sc_Board_climb : FnScope ["self", "column"] ["self"] (defScope (inClass (topS 58) 8)) := ⟨rfl, rfl, rfl, by decide +kernel, rfl, by decide +kernel, by decide +kernel⟩
theorem ok_Board_climb (T : Txt K mg base) : CalM P w K mg base 3 "Board" "climb" ["self"] (spD K (pr_Board_climb K)) := by
  refine cal_mkM T (by decide +kernel) (T.me "Board" "climb" "Board.climb" 58 8 (by decide +kernel)) sc_Board_climb (fun _ _ _ _ _ _ us hl => match us, hl with | [_], _ => rfl) (fun ds ob Q p => len_Board_climb p) fun cdv A outer s H f E hr =>
    ⟨_, (pss_cons (ps_set (i := 1) sc_Board_climb.nd rfl (.inl rfl) (pe_calM (K := K) rfl (ok_Board_first_below (K := K) T) (by decide) (hr.mono (by decide)) (pv 0) (pa_cons (pe_ixK (K := K) rfl (pe_fldK (K := K) rfl (pv 0)) (pe_un un_neg pe_int)) pa_nil)))
      (pss_one (ps_while PassesOwn.never (pt_cmpR op_notN (pv 1) pe_non (nomark _)) (pss_cons (ps_expr (pe_calM (K := K) rfl (ok_Board_exchange (K := K) T) (by decide) (hr.mono (by decide)) (pv 0) (pa_cons (pe_calM (K := K) rfl (ok_Board_tightest (K := K) T) (by decide) (hr.mono (by decide)) (pv 0) (pa_cons (pv 1) pa_nil)) (pa_cons (pv 1) pa_nil))))
      (pss_one (ps_set (i := 1) sc_Board_climb.nd rfl (.inl rfl) (pe_calM (K := K) rfl (ok_Board_first_below (K := K) T) (by decide) (hr.mono (by decide)) (pv 0) (pa_cons (pe_ixK (K := K) rfl (pe_fldK (K := K) rfl (pv 0)) (pe_un un_neg pe_int)) pa_nil)))))))), fun b ds ob Q p => ?_⟩
  obtain ⟨a, a1, a2, a3, rs, B, M, φ, rfl, O, hB, hF, hbdd, qd⟩ := p
  simp only [startD, List.map_nil]
  have hM := hB.big
  have fst : ∀ (ow : Own) (rs' : List Addr) (B' : Bd) (O' : BO K ow a a1 a2 a3 rs' B') (hB' : Brd M B' φ) (hl : M < rs'.length), ∀ QD : Dt → Own → Prop, (∀ o, CliO M B' o → QD o ow) → pr_Board_first_below K [.ptr a, .ptr rs'[M]] ow QD :=
    fun ow rs' B' O' hB' hl QD z => ⟨a, a1, a2, a3, rs', B', M, rs'[M], B'.rows.getD M [], rfl, O', hB'.shp, O'.row M hl, hB'.shp.row M (Nat.le_refl _), fun z1 => z _ (.inl ⟨rfl, z1⟩), fun q h1 h2 h3 => z _ (.inr ⟨q, h1, rfl, h2, h3⟩)⟩
  refine dx_seq ?_
  refine dx_asg ?_
  refine de_methA ?_
  repeat walk_at "b"
  refine ⟨.inl ⟨a, _, rfl, O.self, by rfl⟩, ?_⟩
  repeat walk_at "b"
  have hrl : rs.length = M + 1 := by rw [O.len]; exact hB.shp.rows
  refine dr_rowsL O hrl ?_
  repeat walk_at "b"
  refine fst ob rs B O hB (by omega) _ fun o ho => ?_
  refine dg_name ?_
  dsimp only [List.set]
  refine dx_while (CliI K a a1 a2 a3 M φ B) (CBd M - 0) ⟨ob, rs, B, 0, o, rfl, O, hB, .start, rfl, rfl, ho⟩ ?_
  rintro m d ⟨ow, rs', B', k, o, rfl, O', hB', hR, hbase, hm, ho⟩
  obtain ⟨hk, hF'⟩ := hR.climb hB.vars hF hB.good (Nat.pos_of_ne_zero (by decide)) hB.bd
  have hk : k < CBd M := hk
  have hrl' : rs'.length = M + 1 := by rw [O'.len]; exact hB'.shp.rows
  rcases ho with ⟨rfl, hz⟩ | ⟨q, hq, rfl, hneg, hfirst⟩
  · repeat walk_at "b"
    exact endD_all (qd ow rs' B' k O' hB' hR hbase hF' hz)
  · repeat walk_at "b"
    refine ⟨.inl ⟨a, _, rfl, O'.self, by rfl⟩, ?_⟩
    repeat walk_at "b"
    refine ⟨.inl ⟨a, _, rfl, O'.self, by rfl⟩, ?_⟩
    repeat walk_at "b"
    have hbb := bb_of hB'.shp hB'.good hB'.bd
    have hpos : ∃ i, i < M ∧ 0 < ent B' i q := has_pos hB'.vars hB'.good.hd hq fun x hx X => hbdd x hx (((Rch.kept hB.kept hR).sol x 0).mpr X)
    refine ⟨a, a1, a2, a3, rs', B', M, q, rfl, O', hB'.shp, hbb, by omega, hq, hpos, fun p hp => ?_⟩
    repeat walk_at "b"
    obtain ⟨hB2, P⟩ := hB'.step hp.lt hq (show ent B' p q ≠ 0 by have := hp.pos; omega)
    refine ⟨a, a1, a2, a3, rs', B', M, p, q, rfl, O', hB'.shp, hbb, hp.lt, hq, by have := hp.pos; omega, fun ow2 rs2 O2 => ?_⟩
    repeat walk_at "b"
    refine ⟨.inl ⟨a, _, rfl, O2.self, by rfl⟩, ?_⟩
    repeat walk_at "b"
    have hrl2 : rs2.length = M + 1 := by rw [O2.len]; exact hB2.shp.rows
    refine dr_rowsL O2 hrl2 ?_
    repeat walk_at "b"
    have R2 : Rch 6 M (StepC 6 M) (tbOf 6 M B) (k + 1) (tbOf 6 M (exch B' p q)) := .step hR ⟨hq, hneg, fun j hj hn => ab_le (hfirst j hj hn), hp.lt, hp.pos, hp.tight, fun i hi h1 h2 => as_le hp.lt hi (hp.tie i hi h1 h2)⟩ P
    refine fst ow2 rs2 _ O2 hB2 (by omega) _ fun o' ho' => ?_
    repeat walk_at "b"
    exact ⟨CBd M - (k + 1), by omega, ow2, rs2, _, k + 1, o', rfl, O2, hB2, R2, hbase, rfl, ho'⟩
def pr_Board_numbers_in (K : PySem.W.Frag) : Pr := fun ds ob QD => ∃ a a1 a2 a3 rs B n φ r row o, ds = [.ptr a, .ptr r, o, .int ((n : Nat) : Int)] ∧ BO K ob a a1 a2 a3 rs B ∧ Brd (3 + n) B φ ∧ ob r = some (brow row) ∧ row.length = 7 ∧ (o = .non ∨ ∃ p, p < 3 + n ∧ o = .int (B.aside.getD p 0)) ∧ ∀ l : List Int, QD (.tup (l.map Dt.int)) ob
theorem len_Board_numbers_in {ds ob Q} (p : pr_Board_numbers_in K ds ob Q) : ds.length = 4 := by obtain ⟨_, _, _, _, _, _, _, _, _, _, _, rfl, _⟩ := p; rfl
theorem sc_Board_numbers_in : FnScope ["self", "row", "own", "count", "first", "found", "column", "variable"] ["self", "row", "own", "count"] (defScope (inClass (topS 58) 9)) := ⟨rfl, rfl, rfl, by decide +kernel, rfl, by decide +kernel, by decide +kernel⟩
theorem ok_Board_numbers_in (T : Txt K mg base) : CalM P w K mg base 3 "Board" "numbers_in" ["self", "row", "own", "count"] (spD K (pr_Board_numbers_in K)) := by
  refine cal_mkM T (by decide +kernel) (T.me "Board" "numbers_in" "Board.numbers_in" 58 9 (by decide +kernel)) sc_Board_numbers_in (fun _ _ _ _ _ _ us hl => match us, hl with | [_, _, _, _], _ => rfl) (fun ds ob Q p => len_Board_numbers_in p) fun cdv A outer s H f E hr =>
    ⟨_, (pss_cons (ps_set (i := 4) sc_Board_numbers_in.nd rfl (.inl rfl) (pe_op op_sub (pe_op op_add (pe_cbK (r := DL.rLen K) call_len' boot_len (T.free "len" (by decide +kernel)) (by rfl) (pa_cons (pe_cal0 (ok_variables (K := K) T) (hr.mono (by decide)) (by rfl)) pa_nil)) (pe_gint (T.gint "MOST_ABOARD" 4 (by decide +kernel)) (by rfl))) pe_int))
      (pss_cons (ps_set (i := 5) sc_Board_numbers_in.nd rfl (.inl rfl) (pe_op op_rep (pe_lst (pa_cons pe_int pa_nil)) (pv 3)))
      (pss_cons (ps_for PassesOwn.never rfl (pi_enumK (K := K) rfl (by rfl) (T.free "enumerate" (by decide +kernel)) (pa_cons (pe_fldK (K := K) rfl (pv 0)) pa_nil)) (pg_tupK (K := K) (n := 2) rfl rfl (pgs_cons (pg_name (i := 6) sc_Board_numbers_in.nd rfl (.inl rfl)) (pgs_cons (pg_name (i := 7) sc_Board_numbers_in.nd rfl (.inl rfl)) pgs_nil)))
      (pss_one (ps_if (pt_cmpR op_ge (pv 7) (pv 4) (nomark _)) (pss_one (ps_asg (pe_ixK (K := K) rfl (pv 1) (pv 6)) (pg_sub (pv 5) (pe_op op_sub (pv 7) (pv 4)) set_list))) pss_nil)))
      (pss_cons (ps_if (PW.pt (pw_and (pt_cmpR op_notN (pv 2) pe_non (nomark _)) (pw_and1 (pt_cmpR op_ge (pv 2) (pv 4) (nomark _))))) (pss_one (ps_asg (pe_fldK (K := K) rfl (pv 0)) (pg_sub (pv 5) (pe_op op_sub (pv 2) (pv 4)) set_list))) pss_nil)
      (pss_one (ps_ret (pe_ctK (r := DL.rTupleOf K) call_tuple_of' (by decide +kernel) (T.free "tuple" (by decide +kernel)) (by rfl) (pa_cons (pv 5) pa_nil)))))))), fun b ds ob Q p => ?_⟩
  obtain ⟨a, a1, a2, a3, rs, B, n, φ, r, row, o, rfl, O, hB, hr1, hlr, ho, qd⟩ := p
  simp only [startD, List.map_nil]
  have hM := hB.big
  have S := hB.shp
  repeat walk_at "b"
  refine ⟨rfl, ?_⟩
  repeat walk_at "b"
  rw [show ((List.map DL.pairD vrs).length : Int) = 6 by rfl]
  refine de_lstO ?_
  repeat walk_at "b"
  intro c hc
  repeat walk_at "b"
  refine dr_rep Own.put_same (by omega) (by simp; omega) (by omega) fun e he => ?_
  have hce : ∀ {x : Addr} {y : Ow}, ob x = some y → x ≠ c := fun z q => by rw [q] at z; have hc : ob c = none := hc; rw [hc] at z; cases z
  have hee : ∀ {x : Addr} {y : Ow}, ob x = some y → x ≠ e := fun {x y} z q => by
    have he : (ob.put c _) e = none := he
    rw [q] at z
    have : ob.put c (Ow.lst [Dt.int 0]) e = ob e := Own.put_ne (hce z)
    rw [this, z] at he; cases he
  have OW : ∀ {ow : Own}, (∀ x y, ob x = some y → ow x = some y) → BO K ow a a1 a2 a3 rs B := fun h => ⟨h _ _ O.self, h _ _ O.above, h _ _ O.rows, h _ _ O.aside, fun i hi => h _ _ (O.row i hi), O.len, O.nd⟩
  have hc : ob c = none := hc
  have he0 : (ob.put c (Ow.lst [Dt.int 0])) e = none := he
  dsimp only
  have hl0 : (List.replicate ((n : Int)).toNat [Dt.int 0]).flatten = (List.replicate n (0 : Int)).map Dt.int := by
    rw [show ((n : Int)).toNat = n by omega, List.map_replicate]
    induction n with
    | zero => rfl
    | succ n ih => rw [List.replicate_succ, List.flatten_cons, List.replicate_succ]; rw [List.flatten_replicate_singleton]; rfl
  rw [hl0]
  have ext0 : ∀ x y, ob x = some y → ((ob.put c (Ow.lst [Dt.int 0])).put e (Ow.lst ((List.replicate n (0 : Int)).map Dt.int))) x = some y := fun x y z => by
    rw [Own.put_ne (hee z), Own.put_ne (hce z)]; exact z
  generalize hw0 : (ob.put c (Ow.lst [Dt.int 0])).put e (Ow.lst ((List.replicate n (0 : Int)).map Dt.int)) = ow0 at ext0
  have e0 : ow0 e = some (brow (List.replicate n 0)) := by rw [← hw0]; exact Own.put_same
  have O0 := OW ext0
  have setE : ∀ (ow : Own) (l : List Int) (i : Nat) (v : Int), (∀ x y, ob x = some y → ow x = some y) → ow e = some (brow l) → (∀ x y, ob x = some y → (ow.put e (Ow.lst ((l.map Dt.int).set i (.int v)))) x = some y) ∧ (ow.put e (Ow.lst ((l.map Dt.int).set i (.int v)))) e = some (brow (l.set i v)) := fun ow l i v h1 h2 =>
    ⟨fun x y z => by rw [Own.put_ne (hee z)]; exact h1 x y z, by rw [Own.put_same]; unfold brow; rw [List.map_set]⟩
  repeat walk_at "b"
  refine dx_for (di_enumO ?_)
  repeat walk_at "b"
  refine ⟨a1, _, rfl, O0.above, fun k d => ∃ u v ow l, d = ⟨[some (.ptr a), some (.ptr r), some o, some (.int (n : Nat)), some (.int (6 + 4 - 1)), some (.ptr e), u, v], ow⟩ ∧ (∀ x y, ob x = some y → ow x = some y) ∧ ow e = some (brow l) ∧ l.length = n, ⟨_, _, ow0, _, rfl, ext0, e0, by simp⟩, ?_, ?_, ?_⟩
  · rintro k d _ ⟨u, v, ow, l, rfl, h1, h2, h3⟩
    exact h1 _ _ O.above
  · rintro k x d hx ⟨u, v, ow, l, rfl, h1, h2, h3⟩
    obtain ⟨y, hy, rfl⟩ := enumD_get hx
    obtain ⟨z, hz, rfl⟩ := map_get hy
    have hk : k < 6 := by rw [← S.above]; exact (List.getElem?_eq_some_iff.mp hz).1
    have ez : B.above.getD k 0 = z := by rw [List.getD_eq_getElem?_getD, hz]; rfl
    have z0 := S.abP k hk
    have z1 : (B.above.getD k 0).toNat < 6 + (3 + n) := hB.vars.abL k hk
    rw [ez] at z0 z1
    have OK := OW h1
    repeat walk_at "b"
    by_cases h9 : (6 + 4 - 1 : Int) ≤ z
    · refine iteT' (decide_eq_true h9) ?_
      repeat walk_at "b"
      refine dr_ints (h1 _ _ hr1) (n := k) (by omega) ?_
      repeat walk_at "b"
      refine dg_sub' ?_
      repeat walk_at "b"
      refine ⟨e, _, rfl, h2, ?_⟩
      repeat walk_at "b"
      refine ⟨(z - (6 + 4 - 1)).toNat, by rw [Int.toNat_of_nonneg (by omega)], rfl, by rw [List.length_map]; omega, ?_⟩
      obtain ⟨g1, g2⟩ := setE ow l (z - (6 + 4 - 1)).toNat (row.getD k 0) h1 h2
      exact ⟨_, _, _, _, rfl, g1, g2, by rw [List.length_set]; exact h3⟩
    · refine iteF' (decide_eq_false h9) ?_
      repeat walk_at "b"
      exact ⟨_, _, ow, l, rfl, h1, h2, h3⟩
  · rintro d ⟨u, v, ow, l, rfl, h1, h2, h3⟩
    have OK := OW h1
    have fin : ∀ (ow : Own) (l : List Int) u v, (∀ x y, ob x = some y → ow x = some y) → ow e = some (brow l) → DX K b (tRet (tCB (DL.rTupleOf K) (tCons (tVar 5) tNil))) ⟨[some (.ptr a), some (.ptr r), some o, some (.int (n : Nat)), some (.int (6 + 4 - 1)), some (.ptr e), u, v], ow⟩ { nx := endD Q .non, rt := endD Q } := by
      intro ow l u v h1 h2
      repeat walk_at "b"
      refine dc_tupO h2 ?_
      exact ⟨ob, h1, qd l⟩
    rcases ho with rfl | ⟨p, hp, rfl⟩
    · repeat walk_at "b"
      try simp only [if_false, Bool.false_eq_true]
      repeat walk_at "b"
      refine dc_tupO h2 ?_
      exact ⟨ob, h1, qd l⟩
    · have z0 := S.asP p hp
      have z1 := hB.vars.asL p hp
      have z1 : (if p < 3 + n then (B.aside.getD p 0).toNat else 6 + (3 + n)) < 6 + (3 + n) := z1
      rw [if_pos hp] at z1
      repeat walk_at "b"
      try simp only [if_true]
      repeat walk_at "b"
      by_cases h9 : (6 + 4 - 1 : Int) ≤ B.aside.getD p 0
      · refine iteT' (decide_eq_true h9) ?_
        repeat walk_at "b"
        refine dg_sub' ?_
        repeat walk_at "b"
        refine ⟨e, _, rfl, h2, ?_⟩
        repeat walk_at "b"
        refine ⟨(B.aside.getD p 0 - (6 + 4 - 1)).toNat, by rw [Int.toNat_of_nonneg (by omega)], rfl, by rw [List.length_map]; omega, ?_⟩
        obtain ⟨g1, g2⟩ := setE ow l (B.aside.getD p 0 - (6 + 4 - 1)).toNat B.bottom h1 h2
        exact fin _ _ _ _ g1 g2
      · refine iteF' (decide_eq_false h9) ?_
        repeat walk_at "b"
        refine dc_tupO h2 ?_
        exact ⟨ob, h1, qd l⟩
end
end Cab
/-! W4g -/
set_option Elab.async false
set_option linter.all false
set_option maxRecDepth 100000
set_option maxHeartbeats 4000000
namespace Cab
open PySem PySem.Spec PyProof.Rows L2 DL
local macro_rules | `(tactic| walk_at "d") => `(tactic| first
  | with_reducible refine dx_seq ?_ | with_reducible refine dx_ret ?_ | with_reducible refine dx_asg ?_ | ((with_reducible refine dg_name ?_); dsimp only [List.set])
  | with_reducible refine de_op ?_ | ((with_reducible refine' de_var ?h1 ?_); (case h1 => exact rfl)) | with_reducible refine de_int ?_ | with_reducible refine da_cons ?_ | with_reducible refine da_nil ?_
  | ((with_reducible refine' dr_xT ?h1 ?_); (case h1 => exact rfl)) | ((with_reducible refine' dr_xL ?h1 ?_); (case h1 => exact rfl)) | with_reducible refine dr_I0 ?_ | with_reducible refine dr_I0b ?_ | with_reducible refine de_callP ?_ | with_reducible refine de_callA ?_
  | with_reducible refine de_cb ?_ | with_reducible refine de_un ?_ | with_reducible refine du_I ?_ | with_reducible refine de_bl ?_ | with_reducible refine de_non ?_ | with_reducible refine de_str ?_ | with_reducible refine de_ty ?_
  | with_reducible refine dr_eqI ?_ | with_reducible refine dr_neI ?_ | with_reducible refine dr_eqS ?_ | with_reducible refine dr_isN ?_ | with_reducible refine dr_notN ?_
  | with_reducible refine dt_and ?_ | with_reducible refine dt_or ?_ | with_reducible refine dt_not ?_ | with_reducible refine de_if ?_ | with_reducible refine de_andV ?_ | with_reducible refine de_orV ?_ | with_reducible refine de_notV ?_
  | ((with_reducible refine dt_test ?_)) | ((with_reducible refine dt_B ?_))
  | with_reducible refine dx_par' ?_ | with_reducible refine dx_par3' ?_ | with_reducible refine ex_bl ?_ | with_reducible refine ex_int ?_ | with_reducible refine isi_int ?_ | with_reducible refine isi_intB ?_ | with_reducible refine isi_tup ?_ | with_reducible refine isi_tupS ?_ | with_reducible refine isi_str ?_ | with_reducible refine de_chain ?_ | with_reducible refine dt_chain ?_ | with_reducible refine iteT ?_ | with_reducible refine iteF ?_ | with_reducible refine dx_if ?_ | with_reducible refine dx_drop ?_ | with_reducible refine dx_cont ?_ | with_reducible refine dx_next ?_
  | with_reducible refine dc_abs ?_ | with_reducible refine dc_lenT ?_ | with_reducible refine dc_lenL ?_ | with_reducible refine dc_int ?_ | with_reducible refine dc_max2 ?_ | with_reducible refine dc_min2 ?_ | with_reducible refine dc_tupL ?_
  | with_reducible refine de_fldF ?_ ?_ ?_ | with_reducible refine de_tup ?_ | ((with_reducible refine len_ok ?h1 ?_); (case h1 => exact rfl))
  | ((with_reducible refine iteT' ?h1 ?_); (case h1 => rfl)) | ((with_reducible refine iteF' ?h1 ?_); (case h1 => rfl))
  | with_reducible refine ex_int2 ?_ | ((with_reducible refine' dg_tup ?h1 ?_); (case h1 => rfl)) | with_reducible refine dgs_cons ?_ | with_reducible refine dgs_nil ?_ | with_reducible refine dc_lenX ?_ | with_reducible refine dr_inX ?_
  | dsimp only [List.set])
/-- a comprehension's targets -/
local macro_rules | `(tactic| walk_at "w") => `(tactic| repeat first
  | exact wp_name (by simp) | exact mo_name | exact wps_nil | exact mos_nil
  | refine wp_tup ?_ | refine wps_cons ?_ ?_ ?_ ?_ | refine mo_tup ?_ | refine mos_cons ?_ ?_)
/-- ends that are told by a value: a bool, a pair -/
local macro_rules | `(tactic| walk_at "e") => `(tactic| first
  | walk_at "d"
  | ((with_reducible refine Exists.intro _ (And.intro rfl ?_))))
section
variable {P : Program} {w : World} {K : PySem.W.Frag} {mg : Str → Option Value} {base : Heap}
open Tab Term
local macro_rules | `(tactic| walk_at "b") => `(tactic| first
  | with_reducible refine fldB_bottom (by assumption) ?_ | with_reducible refine fldB_above (by assumption) ?_ | with_reducible refine fldB_rows (by assumption) ?_ | with_reducible refine fldB_aside (by assumption) ?_ | with_reducible refine fldB_base (by assumption) ?_
  | with_reducible refine ⟨_, _, _, _, _, _, rfl, (by assumption), ?_⟩
  | with_reducible refine de_methA ?_
  | walk_at "d")
/-! ### the board: its mixture and table -/
/-- the own shares of a row's corners but the first -/
def ownL (x : Nat → Int) (c : Nat) : List Int := ((List.range 6).filter fun i => decide ((vrs.getD i (0, 0)).1 = ((c : Nat) : Int))).map fun i => x i
def mixL (x : Nat → Int) (d : Int) (c : Nat) : List Int := (d - (ownL x c).sum) :: ownL x c
theorem ownL_len (x : Nat → Int) (c : Nat) : (ownL x c).length ≤ 6 := by
  unfold ownL
  rw [List.length_map]
  exact Nat.le_trans (List.length_filter_le _ _) (by simp)
theorem ownL_mem {x : Nat → Int} {c : Nat} {y : Int} (h : y ∈ ownL x c) : ∃ v, v < 6 ∧ y = x v := by
  unfold ownL at h
  obtain ⟨v, hv, rfl⟩ := List.mem_map.mp h
  exact ⟨v, List.mem_range.mp (List.mem_filter.mp hv).1, rfl⟩
/-- the solution of a board, nothing above -/
structure SolB (M : Nat) (B : Bd) (x : Nat → Int) : Prop where
  ab : ∀ j, j < 6 → x ((tbOf 6 M B).ab j) = 0
  as : ∀ i, i < M → x ((tbOf 6 M B).as i) = ent B i 6
def pr_Board_mixture (K : PySem.W.Frag) : Pr := fun ds ob QD => ∃ a a1 a2 a3 rs B M φ x, ds = [.ptr a] ∧ BO K ob a a1 a2 a3 rs B ∧ Brd M B φ ∧ SolB M B x ∧ QD (.lst ((List.range 4).map fun c => .lst ((mixL x B.bottom (c + 1)).map Dt.int))) ob
theorem len_Board_mixture {ds ob Q} (p : pr_Board_mixture K ds ob Q) : ds.length = 1 := by obtain ⟨_, _, _, _, _, _, _, _, _, rfl, _⟩ := p; rfl
theorem sc_Board_mixture : FnScope ["self", "worths", "place", "variable", "found", "count", "own", "here", "corner", "worth"] ["self"] (defScope (inClass (topS 58) 10)) := ⟨rfl, rfl, rfl, by decide +kernel, rfl, by decide +kernel, by decide +kernel⟩
theorem ok_Board_mixture (T : Txt K mg base) : CalM P w K mg base 3 "Board" "mixture" ["self"] (spD K (pr_Board_mixture K)) := by
  refine cal_mkM T (by decide +kernel) (T.me "Board" "mixture" "Board.mixture" 58 10 (by decide +kernel)) sc_Board_mixture (fun _ _ _ _ _ _ us hl => match us, hl with | [_], _ => rfl) (fun ds ob Q p => len_Board_mixture p) fun cdv A outer s H f E hr =>
    ⟨_, (pss_cons (ps_set (i := 1) sc_Board_mixture.nd rfl (.inl rfl) (pe_op op_rep (pe_lst (pa_cons pe_int pa_nil)) (pe_cbK (r := DL.rLen K) call_len' boot_len (T.free "len" (by decide +kernel)) (by rfl) (pa_cons (pe_cal0 (ok_variables (K := K) T) (hr.mono (by decide)) (by rfl)) pa_nil))))
      (pss_cons (ps_for PassesOwn.never rfl (pi_enumK (K := K) rfl (by rfl) (T.free "enumerate" (by decide +kernel)) (pa_cons (pe_fldK (K := K) rfl (pv 0)) pa_nil)) (pg_tupK (K := K) (n := 2) rfl rfl (pgs_cons (pg_name (i := 2) sc_Board_mixture.nd rfl (.inl rfl)) (pgs_cons (pg_name (i := 3) sc_Board_mixture.nd rfl (.inl rfl)) pgs_nil)))
      (pss_one (ps_if (pt_cmpR op_lt (pv 3) (pe_cbK (r := DL.rLen K) call_len' boot_len (T.free "len" (by decide +kernel)) (by rfl) (pa_cons (pe_cal0 (ok_variables (K := K) T) (hr.mono (by decide)) (by rfl)) pa_nil)) (nomark _)) (pss_one (ps_asg (pe_ixK (K := K) rfl (pe_ixK (K := K) rfl (pe_fldK (K := K) rfl (pv 0)) (pv 2)) (pe_un un_neg pe_int)) (pg_sub (pv 1) (pv 3) set_list))) pss_nil)))
      (pss_cons (ps_set (i := 4) sc_Board_mixture.nd rfl (.inl rfl) (pe_lst pa_nil))
      (pss_cons (ps_for PassesOwn.never rfl (pi_range2 (by rfl) (T.free "range" (by decide +kernel)) (pa_cons pe_int (pa_cons (pe_op op_add (pe_gint (T.gint "MOST_ABOARD" 4 (by decide +kernel)) (by rfl)) pe_int) pa_nil))) (pg_name (i := 5) sc_Board_mixture.nd rfl (.inr rfl))
      (pss_cons (ps_setLc (i := 6) (own := [("worth", 9), ("here", 7), ("corner", 8)]) (g := (gTup K 2 (gCons (gTup K 2 (gCons (gName 7) (gCons (gName 8) gNil))) (gCons (gName 9) gNil)))) rfl sc_Board_mixture.nd rfl rfl (sw_true rfl rfl rfl (by decide +kernel)) (pi_zipK (K := K) rfl (by rfl) (T.free "zip" (by decide +kernel)) (pa_cons (pe_cal0 (ok_variables (K := K) T) (hr.mono (by decide)) (by rfl)) (pa_cons (pv 1) pa_nil))) (blkOk_by (own := [("worth", 9), ("here", 7), ("corner", 8)]) (N := ["self", "worths", "place", "variable", "found", "count", "own", "here", "corner", "worth"]) (sc := (defScope (inClass (topS 58) 10))) (by decide +kernel)) (fun _ _ _ _ _ => (pg_tupK (K := K) (n := 2) rfl rfl (pgs_cons (pg_tupK (K := K) (n := 2) rfl rfl (pgs_cons (pg_name (i := 7) sc_Board_mixture.nd rfl (Or.inl rfl)) (pgs_cons (pg_name (i := 8) sc_Board_mixture.nd rfl (Or.inl rfl)) pgs_nil))) (pgs_cons (pg_name (i := 9) sc_Board_mixture.nd rfl (Or.inl rfl)) pgs_nil)))) (fun _ _ _ _ _ => (pts_one (pt_cmpR op_eq (pv 7) (pv 5) (nomark _)))) (fun _ _ _ _ _ => (pv 9)))
      (pss_one (ps_expr (pe_appK (K := K) rfl (pv 4) (pe_lstStar (K := K) rfl (pe_op op_sub (pe_fldK (K := K) rfl (pv 0)) (pe_cbK (r := rSum K) (cr_sum rfl) (by decide +kernel) (T.free "sum" (by decide +kernel)) (by rfl) (pa_cons (pv 6) pa_nil))) (pv 6)))))))
      (pss_one (ps_ret (pv 4))))))), fun b ds ob Q p => ?_⟩
  obtain ⟨a, a1, a2, a3, rs, B, M, φ, x, rfl, O, hB, hx, qd⟩ := p
  simp only [startD, List.map_nil]
  have hM := hB.big
  have S := hB.shp
  have hrl : rs.length = M + 1 := by rw [O.len]; exact S.rows
  repeat walk_at "b"
  refine de_lstO ?_
  repeat walk_at "b"
  intro c hc
  repeat walk_at "b"
  refine ⟨rfl, ?_⟩
  repeat walk_at "b"
  rw [show ((List.map DL.pairD vrs).length : Int) = ((6 : Nat) : Int) by rfl]
  refine dr_rep Own.put_same (by omega) (by decide) (by decide) fun e he => ?_
  have hc : ob c = none := hc
  have he0 : (ob.put c (Ow.lst [Dt.int 0])) e = none := he
  have hce : ∀ {x : Addr} {y : Ow}, ob x = some y → x ≠ c := fun z q => by rw [q, hc] at z; cases z
  have hee : ∀ {x : Addr} {y : Ow}, ob x = some y → x ≠ e := fun {x y} z q => by
    rw [q] at z
    have : ob.put c (Ow.lst [Dt.int 0]) e = ob e := Own.put_ne (hce z)
    rw [this, z] at he0; cases he0
  have OW : ∀ {ow : Own}, (∀ x y, ob x = some y → ow x = some y) → BO K ow a a1 a2 a3 rs B := fun h => ⟨h _ _ O.self, h _ _ O.above, h _ _ O.rows, h _ _ O.aside, fun i hi => h _ _ (O.row i hi), O.len, O.nd⟩
  dsimp only
  have hl0 : (List.replicate (((6 : Nat) : Int)).toNat [Dt.int 0]).flatten = (List.replicate 6 (0 : Int)).map Dt.int := by rfl
  rw [hl0]
  have ext0 : ∀ x y, ob x = some y → ((ob.put c (Ow.lst [Dt.int 0])).put e (Ow.lst ((List.replicate 6 (0 : Int)).map Dt.int))) x = some y := fun x y z => by
    rw [Own.put_ne (hee z), Own.put_ne (hce z)]; exact z
  generalize hw0 : (ob.put c (Ow.lst [Dt.int 0])).put e (Ow.lst ((List.replicate 6 (0 : Int)).map Dt.int)) = ow0 at ext0
  have e0 : ow0 e = some (brow (List.replicate 6 0)) := by rw [← hw0]; exact Own.put_same
  have O0 := OW ext0
  repeat walk_at "b"
  refine dx_for (di_enumO ?_)
  repeat walk_at "b"
  refine ⟨a3, _, rfl, O0.aside, fun k d => ∃ u v ow l z1 z2 z3 z4 z5 z6, d = ⟨[some (.ptr a), some (.ptr e), u, v, z1, z2, z3, z4, z5, z6], ow⟩ ∧ (∀ x y, ob x = some y → ow x = some y) ∧ ow e = some (brow l) ∧ l.length = 6 ∧ ∀ v, v < 6 → l.getD v 0 = x v ∨ (l.getD v 0 = 0 ∧ ∀ i, i < k → i < M → (tbOf 6 M B).as i ≠ v), ⟨_, _, ow0, _, _, _, _, _, _, _, rfl, ext0, e0, by simp, fun v hv => .inr ⟨by rw [List.getD_eq_getElem?_getD, List.getElem?_replicate]; split <;> rfl, fun i hi => by omega⟩⟩, ?_, ?_, ?_⟩
  · rintro k d _ ⟨u, v, ow, l, _, _, _, _, _, _, rfl, h1, h2, h3⟩
    exact h1 _ _ O.aside
  · rintro k w d hxx ⟨u, v, ow, l, z1, z2, z3, z4, z5, z6, rfl, h1, h2, h3, h4⟩
    obtain ⟨y, hy, rfl⟩ := enumD_get hxx
    obtain ⟨z, hz, rfl⟩ := map_get hy
    have hk : k < M := by rw [← S.aside]; exact (List.getElem?_eq_some_iff.mp hz).1
    have ez : B.aside.getD k 0 = z := by rw [List.getD_eq_getElem?_getD, hz]; rfl
    have z0 := S.asP k hk
    rw [ez] at z0
    have eas : (tbOf 6 M B).as k = z.toNat := by
      show (if k < M then (B.aside.getD k 0).toNat else 6 + M) = z.toNat
      rw [if_pos hk, ez]
    have OK := OW h1
    repeat walk_at "b"
    refine ⟨rfl, ?_⟩
    repeat walk_at "b"
    rw [show ((List.map DL.pairD vrs).length : Int) = 6 by rfl]
    by_cases h6 : z < 6
    · refine iteT' (decide_eq_true h6) ?_
      repeat walk_at "b"
      refine dr_rowsO OK (n := k) (by omega) ?_
      repeat walk_at "b"
      refine dr_intsL (n := 6) (OK.row k (by omega)) (S.row k (by omega)) ?_
      repeat walk_at "b"
      refine dg_sub' ?_
      repeat walk_at "b"
      refine ⟨e, _, rfl, h2, ?_⟩
      repeat walk_at "b"
      refine ⟨z.toNat, by rw [Int.toNat_of_nonneg z0], rfl, by rw [List.length_map]; omega, ?_⟩
      refine ⟨_, _, _, l.set z.toNat (ent B k 6), _, _, _, _, _, _, rfl, fun x y q => by rw [Own.put_ne (hee q)]; exact h1 x y q, by rw [Own.put_same]; unfold brow; rw [List.map_set]; rfl, by rw [List.length_set]; exact h3, fun v hv => ?_⟩
      rw [getD_set (by omega)]
      by_cases ev : v = z.toNat
      · rw [if_pos ev]
        refine .inl ?_
        rw [ev, ← eas]; exact (hx.as k hk).symm
      · rw [if_neg ev]
        rcases h4 v hv with q | ⟨q1, q2⟩
        · exact .inl q
        · refine .inr ⟨q1, fun i hi hiM => ?_⟩
          by_cases ei : i = k
          · subst ei; rw [eas]; exact fun q => ev q.symm
          · exact q2 i (by omega) hiM
    · refine iteF' (decide_eq_false h6) ?_
      repeat walk_at "b"
      refine ⟨_, _, ow, l, _, _, _, _, _, _, rfl, h1, h2, h3, fun v hv => ?_⟩
      rcases h4 v hv with q | ⟨q1, q2⟩
      · exact .inl q
      · refine .inr ⟨q1, fun i hi hiM => ?_⟩
        by_cases ei : i = k
        · subst ei; rw [eas]; intro q; omega
        · exact q2 i (by omega) hiM
  · rintro d ⟨u, v, ow, l, z1, z2, z3, z4, z5, z6, rfl, h1, h2, h3, h4⟩
    rw [enumD_len, List.length_map, S.aside] at h4
    have hl : l = (List.range 6).map x := by
      apply List.ext_getElem
      · rw [h3]; simp
      · intro i g1 g2
        have hi : i < 6 := by omega
        have eg : l.getD i 0 = l[i] := by rw [List.getD_eq_getElem?_getD, List.getElem?_eq_getElem g1]; rfl
        simp only [List.getElem_map, List.getElem_range]
        rw [← eg]
        rcases h4 i hi with q | ⟨q1, q2⟩
        · exact q
        · rw [q1]
          rcases hB.vars.all i (by omega) with ⟨j, hj, q⟩ | ⟨j, hj, q⟩
          · rw [← q]; exact (hx.ab j hj).symm
          · exact absurd q (q2 j hj hj)
    subst hl
    clear h3 h4
    refine dx_frzS (k := 1) (a := e) rfl h2 ?_
    have ext1 : ∀ x y, ob x = some y → (ow.del e) x = some y := fun x y q => by
      unfold Own.del
      rw [if_neg (hee q)]; exact h1 x y q
    generalize hw1 : ow.del e = ow1 at ext1
    try rw [hw1]
    dsimp only [List.set]
    refine dx_seq ?_
    refine dx_asg ?_
    refine de_lstO ?_
    repeat walk_at "b"
    intro f' hf'
    have hf' : ow1 f' = none := hf'
    have hfe : ∀ {x : Addr} {y : Ow}, ob x = some y → x ≠ f' := fun z q => by
      have := ext1 _ _ z
      rw [q, hf'] at this; cases this
    repeat walk_at "b"
    refine dx_for (di_rng2 ?_)
    repeat walk_at "b"
    refine ⟨1, 5, rfl, by omega, fun n d => ∃ z1 z2 z3 z5 z6 z7 z8 ow, d = ⟨[some (.ptr a), some (.lst (((List.range 6).map x).map Dt.int)), z1, z2, some (.ptr f'), z3, z5, z6, z7, z8], ow⟩ ∧ (∀ x y, ob x = some y → ow x = some y) ∧ ow f' = some (.lst ((List.range n).map fun c => .lst ((mixL x B.bottom (c + 1)).map Dt.int))), ⟨_, _, _, _, _, _, _, _, rfl, fun x y q => by rw [Own.put_ne (hfe q)]; exact ext1 x y q, Own.put_same⟩, fun _ _ _ _ => trivial, ?_, ?_⟩
    · rintro n w d hw ⟨z1, z2, z3, z5, z6, z7, z8, ow, rfl, h1, h2⟩
      obtain ⟨rfl, hn⟩ := rangeD_get hw
      have hn : n < 4 := hn
      have OK := OW h1
      repeat walk_at "b"
      refine de_lcP (by walk_at "w") (by walk_at "w") ?_
      refine di_zipL ?_
      repeat walk_at "b"
      refine ⟨rfl, ?_⟩
      repeat walk_at "b"
      refine ⟨vrs.map DL.pairD, ((List.range 6).map x).map Dt.int, rfl, by rw [zipD_len, List.length_map, List.length_map, List.length_map]; exact Nat.le_trans (Nat.min_le_right _ _) (by simp), fun _ _ => trivial, fun i => decide ((vrs.getD i (0, 0)).1 = ((n + 1 : Nat) : Int)), fun i => .int (x i), ?_, ?_⟩
      · intro b i y hy
        obtain ⟨g, h, hg, hh, rfl⟩ := zipD_get hy
        obtain ⟨g, hg', rfl⟩ := map_get hg
        obtain ⟨h, hh', rfl⟩ := map_get hh
        obtain ⟨h, hh'', rfl⟩ : ∃ j, (List.range 6)[i]? = some j ∧ h = x j := by
          rw [List.getElem?_map] at hh'
          cases q : (List.range 6)[i]? with
          | none => rw [q] at hh'; cases hh'
          | some j => rw [q] at hh'; exact ⟨j, rfl, (Option.some.inj hh').symm⟩
        have hi : i < 6 := by simpa using (List.getElem?_eq_some_iff.mp hh'').1
        have ei : h = i := by
          have := List.getElem?_range hi
          rw [hh''] at this; exact Option.some.inj this
        subst ei
        dsimp only [wipeD, List.map, List.set, DL.pairD]
        rw [show vrs.getD h (0, 0) = g by rw [List.getD_eq_getElem?_getD, hg']; rfl]
        repeat walk_at "b"
        refine ⟨decide_eq_decide.mpr (by omega), ?_⟩
        by_cases hh : g.1 = 1 + (n : Int)
        · refine iteT' (decide_eq_true hh) ?_
          repeat walk_at "b"
          exact ⟨rfl, rfl⟩
        · exact iteF' (decide_eq_false hh) rfl
      · have er : ((List.range (zipD (vrs.map DL.pairD) (((List.range 6).map x).map Dt.int)).length).filter fun i => decide ((vrs.getD i (0, 0)).1 = ((n + 1 : Nat) : Int))).map (fun i => Dt.int (x i)) = (ownL x (n + 1)).map Dt.int := by
          unfold ownL
          rw [zipD_len, List.length_map, List.length_map, List.length_map, List.length_range, show min vrs.length 6 = 6 by rfl, List.map_map]; rfl
        rw [er]
        repeat walk_at "b"
        refine de_append ?_
        repeat walk_at "b"
        refine ⟨f', _, rfl, h2, ?_⟩
        refine de_star ?_
        repeat walk_at "b"
        refine dc_sumL ?_
        repeat walk_at "b"
        refine ⟨_, rfl, by rw [List.length_map]; have := ownL_len x (n + 1); omega, ?_⟩
        refine ⟨_, h2, by simp; omega, ?_⟩
        refine ⟨_, _, _, _, _, _, _, _, rfl, fun x y q => by rw [Own.put_ne (hfe q)]; exact h1 x y q, ?_⟩
        rw [Own.put_same, List.range_succ, List.map_append]
        rfl
    · rintro d ⟨z1, z2, z3, z5, z6, z7, z8, ow, rfl, h1, h2⟩
      refine dx_frzS (k := 4) (a := f') rfl h2 ?_
      dsimp only [List.set]
      repeat walk_at "b"
      refine ⟨ob, fun x y q => ?_, qd⟩
      show (ow.del f') x = some y
      unfold Own.del
      rw [if_neg (hfe q)]; exact h1 x y q
end
end Cab
/-! W4h -/
set_option Elab.async false
set_option linter.all false
set_option maxRecDepth 100000
set_option maxHeartbeats 4000000
namespace Cab
open PySem PySem.Spec PyProof.Rows L2 DL
local macro_rules | `(tactic| walk_at "d") => `(tactic| first
  | with_reducible refine dx_seq ?_ | with_reducible refine dx_ret ?_ | with_reducible refine dx_asg ?_ | ((with_reducible refine dg_name ?_); dsimp only [List.set])
  | with_reducible refine de_op ?_ | ((with_reducible refine' de_var ?h1 ?_); (case h1 => exact rfl)) | with_reducible refine de_int ?_ | with_reducible refine da_cons ?_ | with_reducible refine da_nil ?_
  | ((with_reducible refine' dr_xT ?h1 ?_); (case h1 => exact rfl)) | ((with_reducible refine' dr_xL ?h1 ?_); (case h1 => exact rfl)) | with_reducible refine dr_I0 ?_ | with_reducible refine dr_I0b ?_ | with_reducible refine de_callP ?_ | with_reducible refine de_callA ?_
  | with_reducible refine de_cb ?_ | with_reducible refine de_un ?_ | with_reducible refine du_I ?_ | with_reducible refine de_bl ?_ | with_reducible refine de_non ?_ | with_reducible refine de_str ?_ | with_reducible refine de_ty ?_
  | with_reducible refine dr_eqI ?_ | with_reducible refine dr_neI ?_ | with_reducible refine dr_eqS ?_ | with_reducible refine dr_isN ?_ | with_reducible refine dr_notN ?_
  | with_reducible refine dt_and ?_ | with_reducible refine dt_or ?_ | with_reducible refine dt_not ?_ | with_reducible refine de_if ?_ | with_reducible refine de_andV ?_ | with_reducible refine de_orV ?_ | with_reducible refine de_notV ?_
  | ((with_reducible refine dt_test ?_)) | ((with_reducible refine dt_B ?_))
  | with_reducible refine dx_par' ?_ | with_reducible refine dx_par3' ?_ | with_reducible refine ex_bl ?_ | with_reducible refine ex_int ?_ | with_reducible refine isi_int ?_ | with_reducible refine isi_intB ?_ | with_reducible refine isi_tup ?_ | with_reducible refine isi_tupS ?_ | with_reducible refine isi_str ?_ | with_reducible refine de_chain ?_ | with_reducible refine dt_chain ?_ | with_reducible refine iteT ?_ | with_reducible refine iteF ?_ | with_reducible refine dx_if ?_ | with_reducible refine dx_drop ?_ | with_reducible refine dx_cont ?_ | with_reducible refine dx_next ?_
  | with_reducible refine dc_abs ?_ | with_reducible refine dc_lenT ?_ | with_reducible refine dc_lenL ?_ | with_reducible refine dc_int ?_ | with_reducible refine dc_max2 ?_ | with_reducible refine dc_min2 ?_ | with_reducible refine dc_tupL ?_
  | with_reducible refine de_fldF ?_ ?_ ?_ | with_reducible refine de_tup ?_ | ((with_reducible refine len_ok ?h1 ?_); (case h1 => exact rfl))
  | ((with_reducible refine iteT' ?h1 ?_); (case h1 => rfl)) | ((with_reducible refine iteF' ?h1 ?_); (case h1 => rfl))
  | with_reducible refine ex_int2 ?_ | ((with_reducible refine' dg_tup ?h1 ?_); (case h1 => rfl)) | with_reducible refine dgs_cons ?_ | with_reducible refine dgs_nil ?_ | with_reducible refine dc_lenX ?_ | with_reducible refine dr_inX ?_
  | dsimp only [List.set])
/-- a comprehension's targets -/
local macro_rules | `(tactic| walk_at "w") => `(tactic| repeat first
  | exact wp_name (by simp) | exact mo_name | exact wps_nil | exact mos_nil
  | refine wp_tup ?_ | refine wps_cons ?_ ?_ ?_ ?_ | refine mo_tup ?_ | refine mos_cons ?_ ?_)
/-- ends that are told by a value: a bool, a pair -/
local macro_rules | `(tactic| walk_at "e") => `(tactic| first
  | walk_at "d"
  | ((with_reducible refine Exists.intro _ (And.intro rfl ?_))))
section
variable {P : Program} {w : World} {K : PySem.W.Frag} {mg : Str → Option Value} {base : Heap}
open Tab Term
local macro_rules | `(tactic| walk_at "b") => `(tactic| first
  | with_reducible refine fldB_bottom (by assumption) ?_ | with_reducible refine fldB_above (by assumption) ?_ | with_reducible refine fldB_rows (by assumption) ?_ | with_reducible refine fldB_aside (by assumption) ?_ | with_reducible refine fldB_base (by assumption) ?_
  | with_reducible refine ⟨_, _, _, _, _, _, rfl, (by assumption), ?_⟩
  | with_reducible refine de_methA ?_
  | walk_at "d")
/-! ### the board: its table -/
def dtab (t : List (List Rat)) : Dt := .tup (t.map fun r => .tup (r.map dq))
def tpS (r : List Int) (k : Nat) : Int := ((List.range (r.length - k)).map fun i => r.getD (k + i) 0 * (12 / (((k + i : Nat) : Int) + 1))).sum
theorem tp1 (a : Int) : tpS [a] 0 = 12 * a := by
  simp [tpS, List.range_succ]
  try omega
theorem tp20 (a b : Int) : tpS [a, b] 0 = 12 * a + 6 * b := by
  simp [tpS, List.range_succ]
  try omega
theorem tp21 (a b : Int) : tpS [a, b] 1 = 6 * b := by
  simp [tpS, List.range_succ]
  try omega
theorem tp30 (a b c : Int) : tpS [a, b, c] 0 = 12 * a + (6 * b + 4 * c) := by
  simp [tpS, List.range_succ]
  try omega
theorem tp31 (a b c : Int) : tpS [a, b, c] 1 = 6 * b + 4 * c := by
  simp [tpS, List.range_succ]
  try omega
theorem tp32 (a b c : Int) : tpS [a, b, c] 2 = 4 * c := by
  simp [tpS, List.range_succ]
  try omega
theorem tp40 (a b c d : Int) : tpS [a, b, c, d] 0 = 12 * a + (6 * b + (4 * c + 3 * d)) := by
  simp [tpS, List.range_succ]
  try omega
theorem tp41 (a b c d : Int) : tpS [a, b, c, d] 1 = 6 * b + (4 * c + 3 * d) := by
  simp [tpS, List.range_succ]
  try omega
theorem tp42 (a b c d : Int) : tpS [a, b, c, d] 2 = 4 * c + 3 * d := by
  simp [tpS, List.range_succ]
  try omega
theorem tp43 (a b c d : Int) : tpS [a, b, c, d] 3 = 3 * d := by
  simp [tpS, List.range_succ]
  try omega
theorem tbl_eq (x : Nat → Int) (d : Int) : ((List.range 4).map fun c => Dt.tup ((List.range (mixL x d (c + 1)).length).map fun k => dq (Rat.divInt (tpS (mixL x d (c + 1)) k) (12 * d)))) = ((tblOf (12 * d) (mixA x d)).map fun r => Dt.tup (r.map dq)) := by
  have e1 : mixL x d 1 = [d - 0] := by rfl
  have e2 : mixL x d 2 = [d - (x 0 + 0), x 0] := by rfl
  have e3 : mixL x d 3 = [d - (x 1 + (x 2 + 0)), x 1, x 2] := by rfl
  have e4 : mixL x d 4 = [d - (x 3 + (x 4 + (x 5 + 0))), x 3, x 4, x 5] := by rfl
  have r1 : List.range 1 = [0] := rfl
  have r2 : List.range 2 = [0, 1] := rfl
  have r3 : List.range 3 = [0, 1, 2] := rfl
  have r4 : List.range 4 = [0, 1, 2, 3] := rfl
  rw [r4]
  simp only [List.map_cons, List.map_nil, Nat.zero_add, Nat.reduceAdd]
  rw [e1, e2, e3, e4]
  simp only [List.length_cons, List.length_nil, Nat.zero_add, Nat.reduceAdd]
  rw [r1, r2, r3, r4]
  simp only [List.map_cons, List.map_nil, tp1, tp20, tp21, tp30, tp31, tp32, tp40, tp41, tp42, tp43, tblOf, mixA, List.getD_cons_zero, List.getD_cons_succ]
  generalize x 0 = x0; generalize x 1 = x1; generalize x 2 = x2; generalize x 3 = x3; generalize x 4 = x4; generalize x 5 = x5
  rw [show 12 * (d - 0) = 12 * d by omega, show 12 * (d - (x0 + 0)) + 6 * x0 = 12 * (d - x0) + 6 * x0 by omega,
    show 12 * (d - (x1 + (x2 + 0))) + (6 * x1 + 4 * x2) = 12 * (d - (x1 + x2)) + (6 * x1 + 4 * x2) by omega,
    show 12 * (d - (x3 + (x4 + (x5 + 0)))) + (6 * x3 + (4 * x4 + 3 * x5)) = 12 * (d - (x3 + x4 + x5)) + (6 * x3 + (4 * x4 + 3 * x5)) by omega]
theorem SolB.bd {M : Nat} {B : Bd} {φ : Nat → Nat → Int} {x : Nat → Int} (hB : Brd M B φ) (hx : SolB M B x) {v : Nat} (hv : v < 6) : (x v).natAbs < 2 ^ 1000 := by
  obtain ⟨b1, b2, b3⟩ := bb_of hB.shp hB.good hB.bd
  rcases hB.vars.all v (by omega) with ⟨j, hj, e⟩ | ⟨i, hi, e⟩
  · rw [← e, hx.ab j hj]; exact Nat.two_pow_pos _
  · rw [← e, hx.as i hi]; exact (b1 i).get 6
theorem mixL_bd {M : Nat} {B : Bd} {φ : Nat → Nat → Int} {x : Nat → Int} (hB : Brd M B φ) (hx : SolB M B x) {c : Nat} {y : Int} (h : y ∈ mixL x B.bottom c) : y.natAbs < 2 ^ 1004 := by
  obtain ⟨b1, b2, b3⟩ := bb_of hB.shp hB.good hB.bd
  have p4 : (2 : Nat) ^ 1004 = 16 * 2 ^ 1000 := by rw [show (1004 : Nat) = 4 + 1000 from rfl, Nat.pow_add]
  rcases List.mem_cons.mp h with e | h
  · have hs := sum_bd (l := ownL x c) (n := 1000) fun y hy => by
      obtain ⟨v, hv, rfl⟩ := ownL_mem hy
      exact SolB.bd hB hx hv
    have hl := ownL_len x c
    have hs2 : (ownL x c).sum.natAbs ≤ 6 * 2 ^ 1000 := Nat.le_trans hs (Nat.mul_le_mul_right _ hl)
    rw [e, p4]
    omega
  · obtain ⟨v, hv, rfl⟩ := ownL_mem h
    have := SolB.bd hB hx hv
    rw [p4]
    omega
def pr_Board_table (K : PySem.W.Frag) : Pr := fun ds ob QD => ∃ a a1 a2 a3 rs B M φ x, ds = [.ptr a] ∧ BO K ob a a1 a2 a3 rs B ∧ Brd M B φ ∧ SolB M B x ∧ QD (dtab (tblOf (12 * B.bottom) (mixA x B.bottom))) ob
theorem len_Board_table {ds ob Q} (p : pr_Board_table K ds ob Q) : ds.length = 1 := by obtain ⟨_, _, _, _, _, _, _, _, _, rfl, _⟩ := p; rfl
theorem sc_Board_table : FnScope ["self", "found", "row", "shares", "rank", "top", "many"] ["self"] (defScope (inClass (topS 58) 11)) := ⟨rfl, rfl, rfl, by decide +kernel, rfl, by decide +kernel, by decide +kernel⟩
theorem ok_Board_table (T : Txt K mg base) : CalM P w K mg base 4 "Board" "table" ["self"] (spD K (pr_Board_table K)) := by
  refine cal_mkM T (by decide +kernel) (T.me "Board" "table" "Board.table" 58 11 (by decide +kernel)) sc_Board_table (fun _ _ _ _ _ _ us hl => match us, hl with | [_], _ => rfl) (fun ds ob Q p => len_Board_table p) fun cdv A outer s H f E hr =>
    ⟨_, (pss_cons (ps_set (i := 1) sc_Board_table.nd rfl (.inl rfl) (pe_lst pa_nil))
      (pss_cons (ps_for PassesOwn.never rfl (pi_listK (K := K) rfl (pe_calM0 (K := K) rfl (ok_Board_mixture (K := K) T) (by decide) (hr.mono (by decide)) (pv 0))) (pg_name (i := 2) sc_Board_table.nd rfl (.inr rfl))
      (pss_cons (ps_set (i := 3) sc_Board_table.nd rfl (.inl rfl) (pe_lst pa_nil))
      (pss_cons (ps_for PassesOwn.never rfl (pi_range1 (by rfl) (T.free "range" (by decide +kernel)) (pa_cons (pe_cbK (r := DL.rLen K) call_len' boot_len (T.free "len" (by decide +kernel)) (by rfl) (pa_cons (pv 2) pa_nil)) pa_nil)) (pg_name (i := 4) sc_Board_table.nd rfl (.inl rfl))
      (pss_cons (ps_set (i := 5) sc_Board_table.nd rfl (.inl rfl) (pe_cbK (r := rSum K) (cr_sum rfl) (by decide +kernel) (T.free "sum" (by decide +kernel)) (by rfl) (pa_cons (pe_lc (own := [("many", 6)]) (g := (gName 6)) (tt := tYes) rfl sc_Board_table.nd (pi_range2 (by rfl) (T.free "range" (by decide +kernel)) (pa_cons (pv 4) (pa_cons (pe_cbK (r := DL.rLen K) call_len' boot_len (T.free "len" (by decide +kernel)) (by rfl) (pa_cons (pv 2) pa_nil)) pa_nil))) (blkOk_by (own := [("many", 6)]) (N := ["self", "found", "row", "shares", "rank", "top", "many"]) (sc := (defScope (inClass (topS 58) 11))) (by decide +kernel)) (fun _ _ _ _ _ => (pg_name (i := 6) sc_Board_table.nd rfl (Or.inl rfl))) (fun _ _ _ _ _ => pts_nil) (fun _ _ _ _ _ => (pe_op op_mulW (pe_ixK (K := K) rfl (pv 2) (pv 6)) (pe_op op_fdivW (pe_gint (T.gint "SCALE" 12 (by decide +kernel)) (by rfl)) (pe_op op_add (pv 6) pe_int))))) pa_nil)))
      (pss_one (ps_expr (pe_appK (K := K) rfl (pv 3) (pe_cal (ok_fraction (K := K) T) (hr.mono (by decide)) (by rfl) (pa_cons (pv 5) (pa_cons (pe_op op_mulW (pe_gint (T.gint "SCALE" 12 (by decide +kernel)) (by rfl)) (pe_fldK (K := K) rfl (pv 0))) pa_nil))))))))
      (pss_one (ps_expr (pe_appK (K := K) rfl (pv 1) (pe_ctK (r := DL.rTupleOf K) call_tuple_of' (by decide +kernel) (T.free "tuple" (by decide +kernel)) (by rfl) (pa_cons (pv 3) pa_nil))))))))
      (pss_one (ps_ret (pe_ctK (r := DL.rTupleOf K) call_tuple_of' (by decide +kernel) (T.free "tuple" (by decide +kernel)) (by rfl) (pa_cons (pv 1) pa_nil)))))), fun b ds ob Q p => ?_⟩
  obtain ⟨a, a1, a2, a3, rs, B, M, φ, x, rfl, O, hB, hx, qd⟩ := p
  simp only [startD, List.map_nil]
  obtain ⟨bb1, bb2, bb3⟩ := bb_of hB.shp hB.good hB.bd
  have OW : ∀ {ow : Own}, (∀ x y, ob x = some y → ow x = some y) → BO K ow a a1 a2 a3 rs B := fun h => ⟨h _ _ O.self, h _ _ O.above, h _ _ O.rows, h _ _ O.aside, fun i hi => h _ _ (O.row i hi), O.len, O.nd⟩
  refine dx_seq ?_
  refine dx_asg ?_
  refine de_lstO ?_
  repeat walk_at "b"
  intro e he
  have he : ob e = none := he
  have hee : ∀ {x : Addr} {y : Ow}, ob x = some y → x ≠ e := fun z q => by rw [q, he] at z; cases z
  have ext0 : ∀ x y, ob x = some y → (ob.put e (Ow.lst [])) x = some y := fun x y z => by rw [Own.put_ne (hee z)]; exact z
  have e0 : (ob.put e (Ow.lst [])) e = some (.lst []) := Own.put_same
  generalize ob.put e (Ow.lst []) = ow0 at ext0 e0
  have O0 := OW ext0
  refine dg_name ?_
  dsimp only [List.set]
  refine dx_seq ?_
  refine dx_for (di_list ?_)
  refine de_methA ?_
  repeat walk_at "b"
  refine ⟨.inl ⟨a, _, rfl, O0.self, by rfl⟩, ?_⟩
  repeat walk_at "b"
  refine ⟨a, a1, a2, a3, rs, B, M, φ, x, rfl, O0, hB, hx, ?_⟩
  refine ⟨_, rfl, fun n d => ∃ z2 z3 z4 z5 z6 ow, d = ⟨[some (.ptr a), some (.ptr e), z2, z3, z4, z5, z6], ow⟩ ∧ (∀ x y, ob x = some y → ow x = some y) ∧ ow e = some (.lst ((List.range n).map fun c => Dt.tup ((List.range (mixL x B.bottom (c + 1)).length).map fun k => dq (Rat.divInt (tpS (mixL x B.bottom (c + 1)) k) (12 * B.bottom))))), ⟨_, _, _, _, _, ow0, rfl, ext0, e0⟩, fun _ _ _ _ => trivial, ?_, ?_⟩
  · rintro n w d hw ⟨z2, z3, z4, z5, z6, ow, rfl, h1, h2⟩
    obtain ⟨c, hc, rfl⟩ := map_get hw
    have hn : n < 4 := by simpa using (List.getElem?_eq_some_iff.mp hc).1
    have ec : c = n := by
      have := List.getElem?_range hn
      rw [hc] at this; exact Option.some.inj this
    subst ec
    have rbd : ∀ y ∈ mixL x B.bottom (c + 1), y.natAbs < 2 ^ 1004 := fun y hy => mixL_bd hB hx hy
    have rlen : (mixL x B.bottom (c + 1)).length ≤ 7 := by unfold mixL; rw [List.length_cons]; have := ownL_len x (c + 1); omega
    generalize hrow : mixL x B.bottom (c + 1) = row at rbd rlen
    refine dg_name ?_
    dsimp only [List.set]
    refine dx_seq ?_
    refine dx_asg ?_
    refine de_lstO ?_
    repeat walk_at "b"
    intro g hg
    have hg : ow g = none := hg
    have hge : g ≠ e := fun z => by subst z; rw [h2] at hg; cases hg
    have hgg : ∀ {x : Addr} {y : Ow}, ob x = some y → x ≠ g := fun z q => by rw [q] at z; rw [h1 _ _ z] at hg; cases hg
    refine dg_name ?_
    dsimp only [List.set]
    refine dx_seq ?_
    refine dx_for (di_rng1 ?_)
    repeat walk_at "b"
    rw [List.length_map]
    refine ⟨((row.length : Nat) : Int), rfl, by omega, by omega, fun k d => ∃ z4 z5 z6 ow', d = ⟨[some (.ptr a), some (.ptr e), some (.lst (row.map Dt.int)), some (.ptr g), z4, z5, z6], ow'⟩ ∧ (∀ x y, ob x = some y → ow' x = some y) ∧ ow' e = ow e ∧ ow' g = some (.lst ((List.range k).map fun k => dq (Rat.divInt (tpS row k) (12 * B.bottom)))), ⟨_, _, _, _, rfl, fun x y z => by rw [Own.put_ne (hgg z)]; exact h1 x y z, Own.put_ne hge.symm, Own.put_same⟩, fun _ _ _ _ => trivial, ?_, ?_⟩
    · rintro k w d hk ⟨z4, z5, z6, ow', rfl, g1, g2, g3⟩
      obtain ⟨rfl, hk⟩ := rangeD_get hk
      have hk : k < row.length := by omega
      rw [Int.zero_add]
      have OK := OW g1
      repeat walk_at "b"
      refine de_lcM (by walk_at "w") (by walk_at "w") ?_
      refine di_rng2 ?_
      repeat walk_at "b"
      rw [List.length_map]
      have hrk : (((row.length : Nat) : Int) - ((k : Nat) : Int)).toNat = row.length - k := by omega
      refine ⟨((k : Nat) : Int), ((row.length : Nat) : Int), rfl, by omega, by rw [rangeD_len]; omega, fun _ _ => trivial, fun i => .int (row.getD (k + i) 0 * (12 / (((k + i : Nat) : Int) + 1))), ?_, ?_⟩
      · intro b i y hy
        obtain ⟨rfl, hi⟩ := rangeD_get hy
        rw [hrk] at hi
        dsimp only [wipeD, List.map, List.set]
        rw [show ((k : Nat) : Int) + ((i : Nat) : Int) = ((k + i : Nat) : Int) by omega]
        repeat walk_at "b"
        refine dr_xL (y := .int (row.getD (k + i) 0)) (by rw [atI_nat (by rw [List.length_map]; omega), List.getElem_map, List.getD_eq_getElem?_getD, List.getElem?_eq_getElem (by omega)]; rfl) ?_
        repeat walk_at "b"
        refine dr_I (smallW (by omega) (by omega)) ?_
        repeat walk_at "b"
        have b1 : (row.getD (k + i) 0).natAbs < 2 ^ 1004 := by
          rw [List.getD_eq_getElem?_getD, List.getElem?_eq_getElem (by omega)]
          exact rbd _ (List.getElem_mem (by omega))
        have b2 : (12 / (((k + i : Nat) : Int) + 1)).natAbs < 2 ^ 10 := by
          have h0 : 0 ≤ 12 / (((k + i : Nat) : Int) + 1) := Int.ediv_nonneg (by decide) (by omega)
          have h1 : 12 / (((k + i : Nat) : Int) + 1) ≤ 12 := Int.ediv_le_self _ (by decide)
          omega
        refine dr_I (wmul b1 b2) ?_
        exact ⟨rfl, rfl⟩
      · rw [rangeD_len, hrk]
        have ee : (List.range (row.length - k)).map (fun i => Dt.int (row.getD (k + i) 0 * (12 / (((k + i : Nat) : Int) + 1)))) = ((List.range (row.length - k)).map fun i => row.getD (k + i) 0 * (12 / (((k + i : Nat) : Int) + 1))).map Dt.int := by rw [List.map_map]; rfl
        rw [ee]
        repeat walk_at "b"
        refine dc_sumL ?_
        repeat walk_at "b"
        refine de_append ?_
        repeat walk_at "b"
        refine ⟨g, _, rfl, g3, ?_⟩
        repeat walk_at "b"
        refine dr_I (wmul (a := 10) (by decide) bb3) ?_
        repeat walk_at "b"
        refine ⟨_, _, rfl, by omega, ?_, ?_⟩
        · have := wide_lt (i := 12) (j := B.bottom) (a := 10) (b := 1000) (by decide) bb3
          exact Nat.lt_of_lt_of_le this (Nat.pow_le_pow_right (by decide) (by decide))
        refine ⟨_, g3, by simp; omega, ?_⟩
        refine ⟨_, _, _, _, rfl, fun x y z => by rw [Own.put_ne (hgg z)]; exact g1 x y z, (Own.put_ne hge.symm).trans g2, ?_⟩
        rw [Own.put_same, List.range_succ, List.map_append]
        rfl
    · rintro d ⟨z4, z5, z6, ow', rfl, g1, g2, g3⟩
      rw [rangeD_len, show (((row.length : Nat) : Int)).toNat = row.length by omega] at g3
      repeat walk_at "b"
      refine de_append ?_
      repeat walk_at "b"
      refine ⟨e, _, rfl, g2.trans h2, ?_⟩
      repeat walk_at "b"
      refine dc_tupO g3 ?_
      repeat walk_at "b"
      refine ⟨_, g2.trans h2, by simp; omega, ?_⟩
      refine ⟨_, _, _, _, _, _, rfl, fun x y z => by rw [Own.put_ne (hee z)]; exact g1 x y z, ?_⟩
      rw [Own.put_same, List.range_succ, List.map_append]
      simp only [List.map_cons, List.map_nil]
      rw [hrow]
  · rintro d ⟨z2, z3, z4, z5, z6, ow, rfl, h1, h2⟩
    rw [List.length_map, List.length_range, tbl_eq] at h2
    repeat walk_at "b"
    refine dc_tupO h2 ?_
    exact ⟨ob, h1, qd⟩
end
end Cab
/-! W4i -/
set_option Elab.async false
set_option linter.all false
set_option maxRecDepth 100000
set_option maxHeartbeats 4000000
namespace Cab
open PySem PySem.Spec PyProof.Rows L2 DL
local macro_rules | `(tactic| walk_at "d") => `(tactic| first
  | with_reducible refine dx_seq ?_ | with_reducible refine dx_ret ?_ | with_reducible refine dx_asg ?_ | ((with_reducible refine dg_name ?_); dsimp only [List.set])
  | with_reducible refine de_op ?_ | ((with_reducible refine' de_var ?h1 ?_); (case h1 => exact rfl)) | with_reducible refine de_int ?_ | with_reducible refine da_cons ?_ | with_reducible refine da_nil ?_
  | ((with_reducible refine' dr_xT ?h1 ?_); (case h1 => exact rfl)) | ((with_reducible refine' dr_xL ?h1 ?_); (case h1 => exact rfl)) | with_reducible refine dr_I0 ?_ | with_reducible refine dr_I0b ?_ | with_reducible refine de_callP ?_ | with_reducible refine de_callA ?_
  | with_reducible refine de_cb ?_ | with_reducible refine de_un ?_ | with_reducible refine du_I ?_ | with_reducible refine de_bl ?_ | with_reducible refine de_non ?_ | with_reducible refine de_str ?_ | with_reducible refine de_ty ?_
  | with_reducible refine dr_eqI ?_ | with_reducible refine dr_neI ?_ | with_reducible refine dr_eqS ?_ | with_reducible refine dr_isN ?_ | with_reducible refine dr_notN ?_
  | with_reducible refine dt_and ?_ | with_reducible refine dt_or ?_ | with_reducible refine dt_not ?_ | with_reducible refine de_if ?_ | with_reducible refine de_andV ?_ | with_reducible refine de_orV ?_ | with_reducible refine de_notV ?_
  | ((with_reducible refine dt_test ?_)) | ((with_reducible refine dt_B ?_))
  | with_reducible refine dx_par' ?_ | with_reducible refine dx_par3' ?_ | with_reducible refine ex_bl ?_ | with_reducible refine ex_int ?_ | with_reducible refine isi_int ?_ | with_reducible refine isi_intB ?_ | with_reducible refine isi_tup ?_ | with_reducible refine isi_tupS ?_ | with_reducible refine isi_str ?_ | with_reducible refine de_chain ?_ | with_reducible refine dt_chain ?_ | with_reducible refine iteT ?_ | with_reducible refine iteF ?_ | with_reducible refine dx_if ?_ | with_reducible refine dx_drop ?_ | with_reducible refine dx_cont ?_ | with_reducible refine dx_next ?_
  | with_reducible refine dc_abs ?_ | with_reducible refine dc_lenT ?_ | with_reducible refine dc_lenL ?_ | with_reducible refine dc_int ?_ | with_reducible refine dc_max2 ?_ | with_reducible refine dc_min2 ?_ | with_reducible refine dc_tupL ?_
  | with_reducible refine de_fldF ?_ ?_ ?_ | with_reducible refine de_tup ?_ | ((with_reducible refine len_ok ?h1 ?_); (case h1 => exact rfl))
  | ((with_reducible refine iteT' ?h1 ?_); (case h1 => rfl)) | ((with_reducible refine iteF' ?h1 ?_); (case h1 => rfl))
  | with_reducible refine ex_int2 ?_ | ((with_reducible refine' dg_tup ?h1 ?_); (case h1 => rfl)) | with_reducible refine dgs_cons ?_ | with_reducible refine dgs_nil ?_ | with_reducible refine dc_lenX ?_ | with_reducible refine dr_inX ?_
  | dsimp only [List.set])
/-- a comprehension's targets -/
local macro_rules | `(tactic| walk_at "w") => `(tactic| repeat first
  | exact wp_name (by simp) | exact mo_name | exact wps_nil | exact mos_nil
  | refine wp_tup ?_ | refine wps_cons ?_ ?_ ?_ ?_ | refine mo_tup ?_ | refine mos_cons ?_ ?_)
/-- ends that are told by a value: a bool, a pair -/
local macro_rules | `(tactic| walk_at "e") => `(tactic| first
  | walk_at "d"
  | ((with_reducible refine Exists.intro _ (And.intro rfl ?_))))
section
variable {P : Program} {w : World} {K : PySem.W.Frag} {mg : Str → Option Value} {base : Heap}
open Tab Term
local macro_rules | `(tactic| walk_at "b") => `(tactic| first
  | with_reducible refine fldB_bottom (by assumption) ?_ | with_reducible refine fldB_above (by assumption) ?_ | with_reducible refine fldB_rows (by assumption) ?_ | with_reducible refine fldB_aside (by assumption) ?_ | with_reducible refine fldB_base (by assumption) ?_
  | with_reducible refine ⟨_, _, _, _, _, _, rfl, (by assumption), ?_⟩
  | with_reducible refine de_methA ?_
  | walk_at "d")
/-! ### the board is made -/
structure BI (K : PySem.W.Frag) (ow : Own) (a a1 a2 : Addr) (rs : List Addr) (fs : List (Str × Dt)) (above : List Int) (rows : List (List Int)) : Prop where
  self : ow a = some (.ins (He.ga K "Board") fs)
  above : ow a1 = some (brow above)
  lst : ow a2 = some (.lst (rs.map Dt.ptr))
  row : ∀ (i : Nat) (h : i < rs.length), ow rs[i] = some (brow (rows.getD i []))
  len : rs.length = rows.length
  nd : (a :: a1 :: a2 :: rs).Nodup
section
variable {ow ow' : Own} {a a1 a2 e : Addr} {rs : List Addr} {fs : List (Str × Dt)} {above : List Int} {rows : List (List Int)}
theorem BI.ext (I : BI K ow a a1 a2 rs fs above rows) (h : ∀ x y, ow x = some y → ow' x = some y) : BI K ow' a a1 a2 rs fs above rows :=
  ⟨h _ _ I.self, h _ _ I.above, h _ _ I.lst, fun i hi => h _ _ (I.row i hi), I.len, I.nd⟩
theorem BI.setSelf (I : BI K ow a a1 a2 rs fs above rows) (fs' : List (Str × Dt)) : BI K (ow.put a (.ins (He.ga K "Board") fs')) a a1 a2 rs fs' above rows := by
  have nd := I.nd
  simp only [List.nodup_cons, List.mem_cons, not_or] at nd
  obtain ⟨⟨h1, h2, h3⟩, _⟩ := nd
  exact ⟨Own.put_same, (Own.put_ne (Ne.symm h1)).trans I.above, (Own.put_ne (Ne.symm h2)).trans I.lst, fun i hi => (Own.put_ne (fun q : rs[i] = a => h3 (by rw [← q]; exact List.getElem_mem hi))).trans (I.row i hi), I.len, I.nd⟩
theorem ext_put {x : Ow} (h : ow e = none) : ∀ u y, ow u = some y → (ow.put e x) u = some y := fun u y z => by
  rw [Own.put_ne (fun q => by rw [q, h] at z; cases z)]; exact z
theorem BI.add (I : BI K ow a a1 a2 rs fs above rows) (he : ow e = none) (r : List Int) : BI K ((ow.put e (brow r)).put a2 (.lst (rs.map Dt.ptr ++ [.ptr e]))) a a1 a2 (rs ++ [e]) fs above (rows ++ [r]) := by
  have ne : ∀ {x : Addr} {y : Ow}, ow x = some y → x ≠ e := fun z q => by rw [q, he] at z; cases z
  have nd := I.nd
  simp only [List.nodup_cons, List.mem_cons, not_or] at nd
  obtain ⟨⟨h1, h2, h3⟩, ⟨h4, h5⟩, h6, h7⟩ := nd
  have m2 : ∀ i (h : i < rs.length), rs[i] ≠ a2 := fun i h q => h6 (q ▸ List.getElem_mem h)
  refine ⟨?_, ?_, ?_, fun i hi => ?_, by rw [List.length_append, List.length_append, I.len]; rfl, ?_⟩
  · rw [Own.put_ne h2, Own.put_ne (ne I.self)]; exact I.self
  · rw [Own.put_ne h4, Own.put_ne (ne I.above)]; exact I.above
  · rw [Own.put_same, List.map_append]; rfl
  · by_cases hl : i < rs.length
    · rw [List.getElem_append_left hl, Own.put_ne (m2 i hl), Own.put_ne (ne (I.row i hl)), List.getD_eq_getElem?_getD, List.getElem?_append_left (by rw [← I.len]; exact hl), ← List.getD_eq_getElem?_getD]
      exact I.row i hl
    · have ei : i = rs.length := by rw [List.length_append] at hi; simp at hi; omega
      subst ei
      rw [List.getElem_append_right (by omega)]
      simp only [Nat.sub_self, List.getElem_cons_zero]
      rw [Own.put_ne (ne I.lst).symm, Own.put_same, List.getD_eq_getElem?_getD, List.getElem?_append_right (by rw [I.len]; omega), I.len, Nat.sub_self]; rfl
  · simp only [List.nodup_cons, List.mem_cons, List.mem_append, not_or, List.not_mem_nil, or_false]
    refine ⟨⟨h1, h2, h3, ne I.self⟩, ⟨h4, h5, ne I.above⟩, ⟨h6, ne I.lst⟩, ?_⟩
    refine List.nodup_append.mpr ⟨h7, by simp, fun x hx y hy => ?_⟩
    have hy : y = e := by simpa using hy
    subst hy
    obtain ⟨i, hi, rfl⟩ := List.getElem_of_mem hx
    exact ne (I.row i hi)
end
theorem neg_take {r : List Int} {n : Nat} (h : n ≤ r.length) : (List.range n).map (fun i => Dt.int (-(r.getD i 0))) = ((r.take n).map fun e => -e).map Dt.int := by
  apply List.ext_getElem
  · simp; omega
  · intro i h1 h2
    simp only [List.length_map, List.length_range] at h1
    simp only [List.getElem_map, List.getElem_range, List.getElem_take]
    rw [List.getD_eq_getElem?_getD, List.getElem?_eq_getElem (by omega)]; rfl
theorem cut_m1 {r : List Int} (h : r.length = 7) : DL.cutD (r.map Dt.int) none (some (-1)) = (r.take 6).map Dt.int ∧ DL.cutD (r.map Dt.int) (some (-1)) none = (r.drop 6).map Dt.int := by
  obtain ⟨a, b, c, d, e, f, g, rfl⟩ := list7 h
  exact ⟨rfl, rfl⟩
def bf1 : List (Str × Dt) := [("bottom", .int 1)]
def bf2 (a1 : Addr) : List (Str × Dt) := [("bottom", .int 1), ("above", .ptr a1)]
def bf3 (a1 a2 : Addr) : List (Str × Dt) := [("bottom", .int 1), ("above", .ptr a1), ("rows", .ptr a2)]
def bf4 (a1 a2 a3 : Addr) : List (Str × Dt) := [("bottom", .int 1), ("above", .ptr a1), ("rows", .ptr a2), ("aside", .ptr a3)]
theorem bf1p : putD "bottom" (.int 1) [] = bf1 := by rfl
theorem bf2p {a1 : Addr} : putD "above" (.ptr a1) bf1 = bf2 a1 := by rfl
theorem bf3p {a1 a2 : Addr} : putD "rows" (.ptr a2) (bf2 a1) = bf3 a1 a2 := by rfl
theorem bf4p {a1 a2 a3 : Addr} : putD "aside" (.ptr a3) (bf3 a1 a2) = bf4 a1 a2 a3 := by rfl
theorem bf5p {a1 a2 a3 : Addr} {B : Bd} (h : B.bottom = 1) : putD "base" (.int B.base) (bf4 a1 a2 a3) = bfs B a1 a2 a3 := by
  unfold bfs
  rw [h]
  rfl
def FrmOk (f : Frm) : Prop := f.fac.length = 10 ∧ Fs 30 f
theorem Fs.up {n m : Nat} {f : Frm} (h : Fs n f) (le : n ≤ m) : Fs m f := ⟨Nat.lt_of_lt_of_le h.1 (Nat.pow_le_pow_right (by decide) le), fun x hx => Nat.lt_of_lt_of_le (h.2 x hx) (Nat.pow_le_pow_right (by decide) le)⟩
def pr_Board___init__ (K : PySem.W.Frag) : Pr := fun ds ob QD => ∃ (a : Addr) (fs : List Frm) (aim : Frm), ds = [.ptr a, .lst (fs.map dfrm), dfrm aim] ∧ ob a = some (.ins (He.ga K "Board") []) ∧ fs.length ≤ 90 ∧ (∀ f ∈ fs, FrmOk f) ∧ FrmOk aim ∧
  ∀ ob' a1 a2 a3 rs, BO K ob' a a1 a2 a3 rs (iniB fs aim) → QD .non ob'
theorem len_Board___init__ {ds ob Q} (p : pr_Board___init__ K ds ob Q) : ds.length = 3 := by obtain ⟨_, _, _, rfl, _⟩ := p; rfl
theorem sc_Board___init__ : FnScope ["self", "rooms", "aim", "many", "count", "here", "corner", "room", "row", "factor", "goal"] ["self", "rooms", "aim"] (defScope (inClass (topS 58) 0)) := ⟨rfl, rfl, rfl, by decide +kernel, rfl, by decide +kernel, by decide +kernel⟩
theorem ok_Board___init__ (T : Txt K mg base) : CalM P w K mg base 4 "Board" "__init__" ["self", "rooms", "aim"] (spD K (pr_Board___init__ K)) := by
  refine cal_mkM T (by decide +kernel) (T.me "Board" "__init__" "Board.__init__" 58 0 (by decide +kernel)) sc_Board___init__ (fun _ _ _ _ _ _ us hl => match us, hl with | [_, _, _], _ => rfl) (fun ds ob Q p => len_Board___init__ p) fun cdv A outer s H f E hr =>
    ⟨_, (pss_cons (ps_set (i := 3) sc_Board___init__.nd rfl (.inl rfl) (pe_cbK (r := DL.rLen K) call_len' boot_len (T.free "len" (by decide +kernel)) (by rfl) (pa_cons (pe_cal0 (ok_variables (K := K) T) (hr.mono (by decide)) (by rfl)) pa_nil)))
      (pss_cons (ps_fldK (K := K) rfl (pv 0) pe_int)
      (pss_cons (ps_fldK (K := K) rfl (pv 0) (pe_listRg rfl (by rfl) (T.free "list" (by decide +kernel)) (prg_1 (by rfl) (T.free "range" (by decide +kernel)) (pv 3))))
      (pss_cons (ps_fldK (K := K) rfl (pv 0) (pe_lst pa_nil))
      (pss_cons (ps_for PassesOwn.never rfl (pi_range2 (by rfl) (T.free "range" (by decide +kernel)) (pa_cons pe_int (pa_cons (pe_op op_add (pe_gint (T.gint "MOST_ABOARD" 4 (by decide +kernel)) (by rfl)) pe_int) pa_nil))) (pg_name (i := 4) sc_Board___init__.nd rfl (.inr rfl))
      (pss_one (ps_expr (pe_appK (K := K) rfl (pe_fldK (K := K) rfl (pv 0)) (pe_op op_cat (pe_lc (own := [("here", 5), ("corner", 6)]) (g := (gTup K 2 (gCons (gName 5) (gCons (gName 6) gNil)))) (tt := tYes) rfl sc_Board___init__.nd (pi_listK (K := K) rfl (pe_cal0 (ok_variables (K := K) T) (hr.mono (by decide)) (by rfl))) (blkOk_by (own := [("here", 5), ("corner", 6)]) (N := ["self", "rooms", "aim", "many", "count", "here", "corner", "room", "row", "factor", "goal"]) (sc := (defScope (inClass (topS 58) 0))) (by decide +kernel)) (fun _ _ _ _ _ => (pg_tupK (K := K) (n := 2) rfl rfl (pgs_cons (pg_name (i := 5) sc_Board___init__.nd rfl (Or.inl rfl)) (pgs_cons (pg_name (i := 6) sc_Board___init__.nd rfl (Or.inl rfl)) pgs_nil)))) (fun _ _ _ _ _ => pts_nil) (fun _ _ _ _ _ => (pe_ifExp (pt_cmpR op_eq (pv 5) (pv 4) (nomark _)) pe_int pe_int))) (pe_lst (pa_cons pe_int pa_nil)))))))
      (pss_cons (ps_for PassesOwn.never rfl (pi_listK (K := K) rfl (pv 1)) (pg_name (i := 7) sc_Board___init__.nd rfl (.inl rfl))
      (pss_cons (ps_set (i := 8) sc_Board___init__.nd rfl (.inl rfl) (pe_cal (ok_row_of (K := K) T) (hr.mono (by decide)) (by rfl) (pa_cons (pv 7) pa_nil)))
      (pss_one (ps_expr (pe_appK (K := K) rfl (pe_fldK (K := K) rfl (pv 0)) (pe_op op_cat (pe_lc (own := [("factor", 9)]) (g := (gName 9)) (tt := tYes) rfl sc_Board___init__.nd (pi_listK (K := K) rfl (pe_slice (r := rSlL K) sl_list (pv 8) po_none (po_some (pe_un un_neg pe_int)))) (blkOk_by (own := [("factor", 9)]) (N := ["self", "rooms", "aim", "many", "count", "here", "corner", "room", "row", "factor", "goal"]) (sc := (defScope (inClass (topS 58) 0))) (by decide +kernel)) (fun _ _ _ _ _ => (pg_name (i := 9) sc_Board___init__.nd rfl (Or.inl rfl))) (fun _ _ _ _ _ => pts_nil) (fun _ _ _ _ _ => (pe_un un_neg (pv 9)))) (pe_slice (r := rSlL K) sl_list (pv 8) (po_some (pe_un un_neg pe_int)) po_none)))))))
      (pss_cons (ps_fldK (K := K) rfl (pv 0) (pe_listRg rfl (by rfl) (T.free "list" (by decide +kernel)) (prg_2 (by rfl) (T.free "range" (by decide +kernel)) (pv 3) (pe_op op_add (pv 3) (pe_cbK (r := DL.rLen K) call_len' boot_len (T.free "len" (by decide +kernel)) (by rfl) (pa_cons (pe_fldK (K := K) rfl (pv 0)) pa_nil))))))
      (pss_cons (ps_set (i := 10) sc_Board___init__.nd rfl (.inl rfl) (pe_cal (ok_row_of (K := K) T) (hr.mono (by decide)) (by rfl) (pa_cons (pv 2) pa_nil)))
      (pss_cons (ps_fldK (K := K) rfl (pv 0) (pe_ixK (K := K) rfl (pv 10) (pe_un un_neg pe_int)))
      (pss_one (ps_expr (pe_appK (K := K) rfl (pe_fldK (K := K) rfl (pv 0)) (pe_op op_cat (pe_lc (own := [("factor", 9)]) (g := (gName 9)) (tt := tYes) rfl sc_Board___init__.nd (pi_listK (K := K) rfl (pe_slice (r := rSlL K) sl_list (pv 10) po_none (po_some (pe_un un_neg pe_int)))) (blkOk_by (own := [("factor", 9)]) (N := ["self", "rooms", "aim", "many", "count", "here", "corner", "room", "row", "factor", "goal"]) (sc := (defScope (inClass (topS 58) 0))) (by decide +kernel)) (fun _ _ _ _ _ => (pg_name (i := 9) sc_Board___init__.nd rfl (Or.inl rfl))) (fun _ _ _ _ _ => pts_nil) (fun _ _ _ _ _ => (pe_un un_neg (pv 9)))) (pe_lst (pa_cons pe_int pa_nil))))))))))))))), fun b ds ob Q p => ?_⟩
  obtain ⟨a, fs, aim, rfl, ho, hlen, hfs, haim, qd⟩ := p
  simp only [startD, List.map_nil]
  repeat walk_at "d"
  refine ⟨rfl, ?_⟩
  repeat walk_at "d"
  rw [show ((List.map DL.pairD vrs).length : Int) = 6 by rfl]
  refine dx_fld (T.cls "Board" (by decide +kernel)).1 (T.noat "Board" "bottom" (by decide +kernel)) ?_
  repeat walk_at "d"
  refine ⟨a, _, rfl, ho, by decide, ?_⟩
  rw [bf1p]
  refine dx_seq ?_
  refine dx_fld (T.cls "Board" (by decide +kernel)).1 (T.noat "Board" "above" (by decide +kernel)) ?_
  refine de_listRg1 ?_
  repeat walk_at "d"
  refine ⟨by decide, by decide, fun a1 h1 => ?_⟩
  have h1 : ob.put a (.ins (He.ga K "Board") bf1) a1 = none := h1
  have na1 : a ≠ a1 := fun q => by rw [← q, Own.put_same] at h1; cases h1
  repeat walk_at "d"
  refine ⟨a, _, rfl, (Own.put_ne na1).trans Own.put_same, by decide, ?_⟩
  rw [bf2p]
  refine dx_seq ?_
  refine dx_fld (T.cls "Board" (by decide +kernel)).1 (T.noat "Board" "rows" (by decide +kernel)) ?_
  refine de_lstO ?_
  repeat walk_at "d"
  intro a2 h2
  have h2 : ((ob.put a (.ins (He.ga K "Board") bf1)).put a1 (.lst (rangeD 0 (6 : Int).toNat))).put a (.ins (He.ga K "Board") (bf2 a1)) a2 = none := h2
  have na2 : a ≠ a2 := fun q => by rw [← q, Own.put_same] at h2; cases h2
  have n12 : a1 ≠ a2 := fun q => by rw [← q, Own.put_ne na1.symm, Own.put_same] at h2; cases h2
  repeat walk_at "d"
  refine ⟨a, _, rfl, (Own.put_ne na2).trans Own.put_same, by simp [bf2], ?_⟩
  rw [bf3p]
  have I0 : BI K (((((ob.put a (.ins (He.ga K "Board") bf1)).put a1 (.lst (rangeD 0 (6 : Int).toNat))).put a (.ins (He.ga K "Board") (bf2 a1))).put a2 (.lst [])).put a (.ins (He.ga K "Board") (bf3 a1 a2))) a a1 a2 [] (bf3 a1 a2) ((List.range 6).map fun i => ((i : Nat) : Int)) [] := by
    refine ⟨Own.put_same, ?_, ?_, fun i hi => (by cases hi), rfl, by simp [na1, na2, n12]⟩
    · rw [Own.put_ne na1.symm, Own.put_ne n12, Own.put_ne na1.symm, Own.put_same]; rfl
    · rw [Own.put_ne na2.symm, Own.put_same]; rfl
  generalize (((((ob.put a (.ins (He.ga K "Board") bf1)).put a1 (.lst (rangeD 0 (6 : Int).toNat))).put a (.ins (He.ga K "Board") (bf2 a1))).put a2 (.lst [])).put a (.ins (He.ga K "Board") (bf3 a1 a2))) = ow0 at I0
  try (dsimp only)
  refine dx_seq ?_
  refine dx_for (di_rng2 ?_)
  repeat walk_at "d"
  refine ⟨2, 5, rfl, by omega, fun n d => ∃ x4 x5 x6 ow rs, d = ⟨[some (.ptr a), some (.lst (fs.map dfrm)), some (dfrm aim), some (.int 6), x4, x5, x6, none, none, none, none], ow⟩ ∧ BI K ow a a1 a2 rs (bf3 a1 a2) ((List.range 6).map fun i => ((i : Nat) : Int)) ((List.range n).map fun c => slk (((c : Nat) : Int) + 2)), ⟨_, _, _, ow0, [], rfl, I0⟩, fun _ _ _ _ => trivial, ?_, ?_⟩
  · rintro n x d hx ⟨x4, x5, x6, ow, rs, rfl, I⟩
    obtain ⟨rfl, hn⟩ := rangeD_get hx
    have hn : n < 3 := hn
    have hrl : rs.length = n := by rw [I.len]; simp
    repeat walk_at "d"
    refine de_append ?_
    refine de_fldO (T.cls "Board" (by decide +kernel)).1 (T.noat "Board" "rows" (by decide +kernel)) ?_
    repeat walk_at "d"
    refine ⟨a, _, _, rfl, I.self, by rfl, ?_⟩
    refine ⟨a2, _, rfl, I.lst, ?_⟩
    refine de_op ?_
    refine de_lcMO (by walk_at "w") (by walk_at "w") ?_
    refine di_list ?_
    repeat walk_at "d"
    refine ⟨rfl, ?_⟩
    repeat walk_at "d"
    refine ⟨_, rfl, by decide, fun _ _ => trivial, fun i => .int (if (vrs.getD i (0, 0)).1 = ((n : Nat) : Int) + 2 then 1 else 0), ?_, ?_⟩
    · intro b i y hy
      obtain ⟨z, hz, rfl⟩ := map_get hy
      dsimp only [wipeD, List.map, List.set, DL.pairD]
      rw [show vrs.getD i (0, 0) = z by rw [List.getD_eq_getElem?_getD, hz]; rfl]
      repeat walk_at "d"
      by_cases h : z.1 = 2 + (n : Int)
      · refine iteT' (decide_eq_true h) ?_
        repeat walk_at "d"
        exact ⟨rfl, by rw [if_pos (by omega)]⟩
      · refine iteF' (decide_eq_false h) ?_
        repeat walk_at "d"
        exact ⟨rfl, by rw [if_neg (by omega)]⟩
    · intro c1 hc1
      have hc1 : ow c1 = none := hc1
      have x1 := ext_put (e := c1) (x := .lst ((List.range (vrs.map DL.pairD).length).map fun i => Dt.int (if (vrs.getD i (0, 0)).1 = ((n : Nat) : Int) + 2 then 1 else 0))) hc1
      refine de_lstO ?_
      repeat walk_at "d"
      intro c2 hc2
      have hc2 : (ow.put c1 _) c2 = none := hc2
      have x2 := ext_put (e := c2) (x := .lst [.int 1]) hc2
      refine' dr_cat ?g1 (fun e he => ?g4) ?g2 ?g3
      case g3 => exact Own.put_same
      case g2 => exact x2 _ _ Own.put_same
      case g1 => simp [vrs, plc, plN, List.range_succ]
      have I2 := (I.ext x1).ext x2
      have he : ((ow.put c1 _).put c2 _) e = none := he
      have hel : (List.range (vrs.map DL.pairD).length).map (fun i => Dt.int (if (vrs.getD i (0, 0)).1 = ((n : Nat) : Int) + 2 then 1 else 0)) ++ [Dt.int 1] = (slk (((n : Nat) : Int) + 2)).map Dt.int := by
        unfold slk
        rw [List.map_append, List.map_map, show vrs = [(2, 2), (3, 2), (3, 3), (4, 2), (4, 3), (4, 4)] by rfl]
        rfl
      have hel2 : Ow.lst ((List.range (vrs.map DL.pairD).length).map (fun i => Dt.int (if (vrs.getD i (0, 0)).1 = ((n : Nat) : Int) + 2 then 1 else 0)) ++ [Dt.int 1]) = brow (slk (((n : Nat) : Int) + 2)) := by rw [hel]; rfl
      repeat walk_at "d"
      refine ⟨rs.map Dt.ptr, (Own.put_ne (fun q => by rw [← q, I2.lst] at he; cases he)).trans I2.lst, by rw [List.length_map]; omega, ?_⟩
      have I3 := I2.add he (slk (((n : Nat) : Int) + 2))
      rw [← hel2] at I3
      refine ⟨_, _, _, _, rs ++ [e], rfl, ?_⟩
      rw [show (List.range (n + 1)).map (fun c => slk (((c : Nat) : Int) + 2)) = (List.range n).map (fun c => slk (((c : Nat) : Int) + 2)) ++ [slk (((n : Nat) : Int) + 2)] by rw [List.range_succ, List.map_append]; rfl]
      exact I3
  · rintro d ⟨x4, x5, x6, ow, rs, rfl, I⟩
    rw [rangeD_len] at I
    have e3 : (List.range ((5 : Int) - 2).toNat).map (fun c => slk (((c : Nat) : Int) + 2)) = [slk 2, slk 3, slk 4] := by rfl
    rw [e3] at I
    refine dx_seq ?_
    refine dx_for (di_list ?_)
    repeat walk_at "d"
    refine ⟨_, rfl, fun n d => ∃ x4 x5 x6 x7 x8 x9 ow rs, d = ⟨[some (.ptr a), some (.lst (fs.map dfrm)), some (dfrm aim), some (.int 6), x4, x5, x6, x7, x8, x9, none], ow⟩ ∧ BI K ow a a1 a2 rs (bf3 a1 a2) ((List.range 6).map fun i => ((i : Nat) : Int)) ([slk 2, slk 3, slk 4] ++ (fs.take n).map fun f => noRow (rowOf f)), ⟨_, _, _, _, _, _, ow, rs, rfl, by rw [List.take_zero]; exact I⟩, fun _ _ _ _ => trivial, ?_, ?_⟩
    · rintro n w d hw ⟨x4, x5, x6, x7, x8, x9, ow, rs, rfl, I⟩
      obtain ⟨f, hf, rfl⟩ := map_get hw
      have hn : n < fs.length := (List.getElem?_eq_some_iff.mp hf).1
      have hrl : rs.length = 3 + n := by rw [I.len]; simp; omega
      have hok := hfs f (List.mem_of_getElem? hf)
      have h7 := rowOf_len f
      repeat walk_at "d"
      refine ⟨f, rfl, hok.1, hok.2.up (by decide), ?_⟩
      repeat walk_at "d"
      refine de_append ?_
      refine de_fldO (T.cls "Board" (by decide +kernel)).1 (T.noat "Board" "rows" (by decide +kernel)) ?_
      repeat walk_at "d"
      refine ⟨a, _, _, rfl, I.self, by rfl, ?_⟩
      refine ⟨a2, _, rfl, I.lst, ?_⟩
      refine de_op ?_
      refine de_lcMO (by walk_at "w") (by walk_at "w") ?_
      refine di_list ?_
      refine de_slL ?_
      repeat walk_at "d"
      refine do_no ?_
      refine do_some ?_
      repeat walk_at "d"
      refine ⟨_, rfl, ?_⟩
      rw [(cut_m1 h7).1]
      refine ⟨_, rfl, by simp; omega, fun _ _ => trivial, fun i => .int (-((rowOf f).getD i 0)), ?_, ?_⟩
      · intro b i y hy
        obtain ⟨z, hz, rfl⟩ := map_get hy
        have hz' : (rowOf f).getD i 0 = z := by
          have hi : i < 6 := by have := (List.getElem?_eq_some_iff.mp hz).1; rw [List.length_take] at this; omega
          rw [List.getElem?_take_of_lt hi] at hz
          rw [List.getD_eq_getElem?_getD, hz]; rfl
        dsimp only [wipeD, List.map, List.set]
        rw [hz']
        repeat walk_at "d"
        exact ⟨rfl, rfl⟩
      · intro c1 hc1
        have hc1 : ow c1 = none := hc1
        have h6 : ((rowOf f).take 6).length = 6 := by rw [List.length_take]; omega
        rw [List.length_map, h6, neg_take (by omega)]
        have x1 := ext_put (e := c1) (x := .lst ((((rowOf f).take 6).map fun e => -e).map Dt.int)) hc1
        refine de_slLO ?_
        repeat walk_at "d"
        refine do_some ?_
        repeat walk_at "d"
        refine do_no ?_
        refine ⟨_, rfl, fun c2 hc2 => ?_⟩
        rw [(cut_m1 h7).2]
        have hc2 : (ow.put c1 _) c2 = none := hc2
        have x2 := ext_put (e := c2) (x := .lst (((rowOf f).drop 6).map Dt.int)) hc2
        refine' dr_cat ?k1 (fun e he => ?k4) ?k2 ?k3
        case k3 => exact Own.put_same
        case k2 => exact x2 _ _ Own.put_same
        case k1 => simp; omega
        have I2 := (I.ext x1).ext x2
        have he : ((ow.put c1 _).put c2 _) e = none := he
        have hel2 : Ow.lst ((((rowOf f).take 6).map fun e => -e).map Dt.int ++ ((rowOf f).drop 6).map Dt.int) = brow (noRow (rowOf f)) := by unfold brow noRow; rw [List.map_append]
        repeat walk_at "d"
        refine ⟨rs.map Dt.ptr, (Own.put_ne (fun q => by rw [← q, I2.lst] at he; cases he)).trans I2.lst, by rw [List.length_map]; omega, ?_⟩
        have I3 := I2.add he (noRow (rowOf f))
        rw [← hel2] at I3
        refine ⟨_, _, _, _, _, _, _, rs ++ [e], rfl, ?_⟩
        rw [show [slk 2, slk 3, slk 4] ++ (fs.take (n + 1)).map (fun f => noRow (rowOf f)) = ([slk 2, slk 3, slk 4] ++ (fs.take n).map fun f => noRow (rowOf f)) ++ [noRow (rowOf f)] by rw [List.take_add_one, hf, List.map_append, List.append_assoc]; rfl]
        exact I3
    · rintro d ⟨x4, x5, x6, x7, x8, x9, ow, rs, rfl, I⟩
      rw [List.length_map, List.take_length] at I
      have hrl : rs.length = 3 + fs.length := by rw [I.len]; simp; omega
      refine dx_seq ?_
      refine dx_fld (T.cls "Board" (by decide +kernel)).1 (T.noat "Board" "aside" (by decide +kernel)) ?_
      refine de_listRg2 ?_
      repeat walk_at "d"
      refine de_fldO (T.cls "Board" (by decide +kernel)).1 (T.noat "Board" "rows" (by decide +kernel)) ?_
      repeat walk_at "d"
      refine ⟨a, _, _, rfl, I.self, by rfl, ?_⟩
      repeat walk_at "d"
      refine dc_lenO I.lst ?_
      repeat walk_at "d"
      rw [List.length_map, hrl]
      refine ⟨by decide, by decide, by omega, by omega, fun a3 h3 => ?_⟩
      have h3 : ow a3 = none := h3
      have ne3 : ∀ {x : Addr} {y : Ow}, ow x = some y → x ≠ a3 := fun z q => by rw [q, h3] at z; cases z
      repeat walk_at "d"
      refine ⟨a, _, rfl, (Own.put_ne (ne3 I.self)).trans I.self, by simp [bf3], ?_⟩
      rw [bf4p]
      have has : Ow.lst (rangeD 6 (6 + ((3 + fs.length : Nat) : Int) - 6).toNat) = brow (iniB fs aim).aside := by
        unfold brow rangeD
        rw [show (6 + ((3 + fs.length : Nat) : Int) - 6).toNat = 3 + fs.length by omega]
        show _ = Ow.lst (((List.range (3 + fs.length)).map fun i => 6 + ((i : Nat) : Int)).map Dt.int)
        rw [List.map_map]; rfl
      have I4 := (I.ext (ext_put (x := .lst (rangeD 6 (6 + ((3 + fs.length : Nat) : Int) - 6).toNat)) h3)).setSelf (bf4 a1 a2 a3)
      have m3 : a3 ∉ a :: a1 :: a2 :: rs := by
        simp only [List.mem_cons, not_or]
        refine ⟨(ne3 I.self).symm, (ne3 I.above).symm, (ne3 I.lst).symm, fun hm => ?_⟩
        obtain ⟨i, hi, q⟩ := List.getElem_of_mem hm
        exact ne3 (I.row i hi) q
      have g3 : ((ow.put a3 (.lst (rangeD 6 (6 + ((3 + fs.length : Nat) : Int) - 6).toNat))).put a (.ins (He.ga K "Board") (bf4 a1 a2 a3))) a3 = some (brow (iniB fs aim).aside) := by
        rw [Own.put_ne (ne3 I.self).symm, Own.put_same, has]
      generalize ((ow.put a3 (.lst (rangeD 6 (6 + ((3 + fs.length : Nat) : Int) - 6).toNat))).put a (.ins (He.ga K "Board") (bf4 a1 a2 a3))) = ow4 at I4 g3
      have h7 := rowOf_len aim
      refine dx_seq ?_
      refine dx_asg ?_
      repeat walk_at "d"
      refine ⟨aim, rfl, haim.1, haim.2.up (by decide), ?_⟩
      refine dg_name ?_
      dsimp only [List.set]
      refine dx_seq ?_
      refine dx_fld (T.cls "Board" (by decide +kernel)).1 (T.noat "Board" "base" (by decide +kernel)) ?_
      repeat walk_at "d"
      refine ⟨a, _, rfl, I4.self, by simp [bf4], ?_⟩
      rw [show putD "base" (.int (12 * aim.num + ((List.range 4).map fun c => (crn aim.fac (c + 1)).getD 0 0).sum)) (bf4 a1 a2 a3) = bfs (iniB fs aim) a1 a2 a3 from bf5p (B := iniB fs aim) rfl]
      have I5 := I4.setSelf (bfs (iniB fs aim) a1 a2 a3)
      have g5 : (ow4.put a (.ins (He.ga K "Board") (bfs (iniB fs aim) a1 a2 a3))) a3 = some (brow (iniB fs aim).aside) := by
        rw [Own.put_ne (ne3 I.self).symm]; exact g3
      generalize ow4.put a (.ins (He.ga K "Board") (bfs (iniB fs aim) a1 a2 a3)) = ow5 at I5 g5
      repeat walk_at "d"
      refine de_append ?_
      refine de_fldO (T.cls "Board" (by decide +kernel)).1 (T.noat "Board" "rows" (by decide +kernel)) ?_
      repeat walk_at "d"
      refine ⟨a, _, _, rfl, I5.self, by rfl, ?_⟩
      refine ⟨a2, _, rfl, I5.lst, ?_⟩
      refine de_op ?_
      refine de_lcMO (by walk_at "w") (by walk_at "w") ?_
      refine di_list ?_
      refine de_slL ?_
      repeat walk_at "d"
      refine do_no ?_
      refine do_some ?_
      repeat walk_at "d"
      refine ⟨_, rfl, ?_⟩
      rw [(cut_m1 h7).1]
      refine ⟨_, rfl, by simp; omega, fun _ _ => trivial, fun i => .int (-((rowOf aim).getD i 0)), ?_, ?_⟩
      · intro b i y hy
        obtain ⟨z, hz, rfl⟩ := map_get hy
        have hz' : (rowOf aim).getD i 0 = z := by
          have hi : i < 6 := by have := (List.getElem?_eq_some_iff.mp hz).1; rw [List.length_take] at this; omega
          rw [List.getElem?_take_of_lt hi] at hz
          rw [List.getD_eq_getElem?_getD, hz]; rfl
        dsimp only [wipeD, List.map, List.set]
        rw [hz']
        repeat walk_at "d"
        exact ⟨rfl, rfl⟩
      · intro c1 hc1
        have hc1 : ow5 c1 = none := hc1
        have h6 : ((rowOf aim).take 6).length = 6 := by rw [List.length_take]; omega
        rw [List.length_map, h6, neg_take (by omega)]
        have x1 := ext_put (e := c1) (x := .lst ((((rowOf aim).take 6).map fun e => -e).map Dt.int)) hc1
        refine de_lstO ?_
        repeat walk_at "d"
        intro c2 hc2
        have hc2 : (ow5.put c1 _) c2 = none := hc2
        have x2 := ext_put (e := c2) (x := .lst [.int 0]) hc2
        refine' dr_cat ?l1 (fun e he => ?l4) ?l2 ?l3
        case l3 => exact Own.put_same
        case l2 => exact x2 _ _ Own.put_same
        case l1 => simp; omega
        have I6 := (I5.ext x1).ext x2
        have g6 := x2 _ _ (x1 _ _ g5)
        have he : ((ow5.put c1 _).put c2 _) e = none := he
        have hel2 : Ow.lst ((((rowOf aim).take 6).map fun e => -e).map Dt.int ++ [Dt.int 0]) = brow (goalRow (rowOf aim)) := by unfold brow goalRow; rw [List.map_append]; rfl
        repeat walk_at "d"
        refine ⟨rs.map Dt.ptr, (Own.put_ne (fun q => by rw [← q, I6.lst] at he; cases he)).trans I6.lst, by rw [List.length_map]; omega, ?_⟩
        have I7 := I6.add he (goalRow (rowOf aim))
        rw [← hel2] at I7
        refine endD_all ?_
        have ne7 : a3 ≠ e := fun q => by rw [← q, g6] at he; cases he
        have m2 : a3 ≠ a2 := fun q => m3 (by rw [q]; simp)
        refine qd _ a1 a2 a3 (rs ++ [e]) ⟨I7.self, I7.above, I7.lst, ?_, I7.row, I7.len, ?_⟩
        · exact (Own.put_ne m2).trans ((Own.put_ne ne7).trans g6)
        · have nd := I7.nd
          simp only [List.mem_cons, not_or] at m3
          simp only [List.nodup_cons, List.mem_cons, List.mem_append, not_or, List.not_mem_nil, or_false] at nd ⊢
          obtain ⟨⟨q1, q2, q3, q4⟩, ⟨q5, q6, q7⟩, ⟨q8, q9⟩, q10⟩ := nd
          exact ⟨⟨q1, q2, Ne.symm m3.1, q3, q4⟩, ⟨q5, Ne.symm m3.2.1, q6, q7⟩, ⟨Ne.symm m2, q8, q9⟩, ⟨m3.2.2.2, ne7⟩, q10⟩
end
end Cab
/-! W4j -/
set_option Elab.async false
set_option linter.all false
set_option maxRecDepth 100000
set_option maxHeartbeats 4000000
namespace Cab
open PySem PySem.Spec PyProof.Rows L2 DL
local macro_rules | `(tactic| walk_at "d") => `(tactic| first
  | with_reducible refine dx_seq ?_ | with_reducible refine dx_ret ?_ | with_reducible refine dx_asg ?_ | ((with_reducible refine dg_name ?_); dsimp only [List.set])
  | with_reducible refine de_op ?_ | ((with_reducible refine' de_var ?h1 ?_); (case h1 => exact rfl)) | with_reducible refine de_int ?_ | with_reducible refine da_cons ?_ | with_reducible refine da_nil ?_
  | ((with_reducible refine' dr_xT ?h1 ?_); (case h1 => exact rfl)) | ((with_reducible refine' dr_xL ?h1 ?_); (case h1 => exact rfl)) | with_reducible refine dr_I0 ?_ | with_reducible refine dr_I0b ?_ | with_reducible refine de_callP ?_ | with_reducible refine de_callA ?_
  | with_reducible refine de_cb ?_ | with_reducible refine de_un ?_ | with_reducible refine du_I ?_ | with_reducible refine de_bl ?_ | with_reducible refine de_non ?_ | with_reducible refine de_str ?_ | with_reducible refine de_ty ?_
  | with_reducible refine dr_eqI ?_ | with_reducible refine dr_neI ?_ | with_reducible refine dr_eqS ?_ | with_reducible refine dr_isN ?_ | with_reducible refine dr_notN ?_
  | with_reducible refine dt_and ?_ | with_reducible refine dt_or ?_ | with_reducible refine dt_not ?_ | with_reducible refine de_if ?_ | with_reducible refine de_andV ?_ | with_reducible refine de_orV ?_ | with_reducible refine de_notV ?_
  | ((with_reducible refine dt_test ?_)) | ((with_reducible refine dt_B ?_))
  | with_reducible refine dx_par' ?_ | with_reducible refine dx_par3' ?_ | with_reducible refine ex_bl ?_ | with_reducible refine ex_int ?_ | with_reducible refine isi_int ?_ | with_reducible refine isi_intB ?_ | with_reducible refine isi_tup ?_ | with_reducible refine isi_tupS ?_ | with_reducible refine isi_str ?_ | with_reducible refine de_chain ?_ | with_reducible refine dt_chain ?_ | with_reducible refine iteT ?_ | with_reducible refine iteF ?_ | with_reducible refine dx_if ?_ | with_reducible refine dx_drop ?_ | with_reducible refine dx_cont ?_ | with_reducible refine dx_next ?_
  | with_reducible refine dc_abs ?_ | with_reducible refine dc_lenT ?_ | with_reducible refine dc_lenL ?_ | with_reducible refine dc_int ?_ | with_reducible refine dc_max2 ?_ | with_reducible refine dc_min2 ?_ | with_reducible refine dc_tupL ?_
  | with_reducible refine de_fldF ?_ ?_ ?_ | with_reducible refine de_tup ?_ | ((with_reducible refine len_ok ?h1 ?_); (case h1 => exact rfl))
  | ((with_reducible refine iteT' ?h1 ?_); (case h1 => rfl)) | ((with_reducible refine iteF' ?h1 ?_); (case h1 => rfl))
  | with_reducible refine ex_int2 ?_ | ((with_reducible refine' dg_tup ?h1 ?_); (case h1 => rfl)) | with_reducible refine dgs_cons ?_ | with_reducible refine dgs_nil ?_ | with_reducible refine dc_lenX ?_ | with_reducible refine dr_inX ?_
  | dsimp only [List.set])
/-- a comprehension's targets -/
local macro_rules | `(tactic| walk_at "w") => `(tactic| repeat first
  | exact wp_name (by simp) | exact mo_name | exact wps_nil | exact mos_nil
  | refine wp_tup ?_ | refine wps_cons ?_ ?_ ?_ ?_ | refine mo_tup ?_ | refine mos_cons ?_ ?_)
/-- ends that are told by a value: a bool, a pair -/
local macro_rules | `(tactic| walk_at "e") => `(tactic| first
  | walk_at "d"
  | ((with_reducible refine Exists.intro _ (And.intro rfl ?_))))
section
variable {P : Program} {w : World} {K : PySem.W.Frag} {mg : Str → Option Value} {base : Heap}
open Tab Term
local macro_rules | `(tactic| walk_at "b") => `(tactic| first
  | with_reducible refine fldB_bottom (by assumption) ?_ | with_reducible refine fldB_above (by assumption) ?_ | with_reducible refine fldB_rows (by assumption) ?_ | with_reducible refine fldB_aside (by assumption) ?_ | with_reducible refine fldB_base (by assumption) ?_
  | with_reducible refine ⟨_, _, _, _, _, _, rfl, (by assumption), ?_⟩
  | with_reducible refine de_methA ?_
  | walk_at "d")
/-! ### solved -/
theorem rowOf_bd {f : Frm} (h : FrmOk f) : ∀ y ∈ rowOf f, y.natAbs ≤ 2 ^ 40 := by
  obtain ⟨num, fac⟩ := f
  obtain ⟨hl, hn, hf⟩ := h
  obtain ⟨f0, f1, f2, f3, f4, f5, f6, f7, f8, f9, e⟩ := list10 hl
  have e : fac = [f0, f1, f2, f3, f4, f5, f6, f7, f8, f9] := e
  subst e
  have er : rowOf ⟨num, [f0, f1, f2, f3, f4, f5, f6, f7, f8, f9]⟩ = [(f1 + (f2 + 0)) * 6 - (f1 + 0) * 12, (f3 + (f4 + 0)) * 6 - (f3 + 0) * 12, (f3 + (f4 + (f5 + 0))) * 4 - (f3 + 0) * 12, (f6 + (f7 + 0)) * 6 - (f6 + 0) * 12, (f6 + (f7 + (f8 + 0))) * 4 - (f6 + 0) * 12, (f6 + (f7 + (f8 + (f9 + 0)))) * 3 - (f6 + 0) * 12,
      12 * num + ((f0 + 0) * 12 + ((f1 + 0) * 12 + ((f3 + 0) * 12 + ((f6 + 0) * 12 + 0))))] := by rfl
  rw [er]
  have hn' : -(2 ^ 30 : Int) < num ∧ num < 2 ^ 30 := by
    have : num.natAbs < 2 ^ 30 := hn
    omega
  have b0 : -(2 ^ 30 : Int) < f0 ∧ f0 < 2 ^ 30 := by
    have : f0.natAbs < 2 ^ 30 := hf f0 (by simp)
    omega
  have b1 : -(2 ^ 30 : Int) < f1 ∧ f1 < 2 ^ 30 := by
    have : f1.natAbs < 2 ^ 30 := hf f1 (by simp)
    omega
  have b2 : -(2 ^ 30 : Int) < f2 ∧ f2 < 2 ^ 30 := by
    have : f2.natAbs < 2 ^ 30 := hf f2 (by simp)
    omega
  have b3 : -(2 ^ 30 : Int) < f3 ∧ f3 < 2 ^ 30 := by
    have : f3.natAbs < 2 ^ 30 := hf f3 (by simp)
    omega
  have b4 : -(2 ^ 30 : Int) < f4 ∧ f4 < 2 ^ 30 := by
    have : f4.natAbs < 2 ^ 30 := hf f4 (by simp)
    omega
  have b5 : -(2 ^ 30 : Int) < f5 ∧ f5 < 2 ^ 30 := by
    have : f5.natAbs < 2 ^ 30 := hf f5 (by simp)
    omega
  have b6 : -(2 ^ 30 : Int) < f6 ∧ f6 < 2 ^ 30 := by
    have : f6.natAbs < 2 ^ 30 := hf f6 (by simp)
    omega
  have b7 : -(2 ^ 30 : Int) < f7 ∧ f7 < 2 ^ 30 := by
    have : f7.natAbs < 2 ^ 30 := hf f7 (by simp)
    omega
  have b8 : -(2 ^ 30 : Int) < f8 ∧ f8 < 2 ^ 30 := by
    have : f8.natAbs < 2 ^ 30 := hf f8 (by simp)
    omega
  have b9 : -(2 ^ 30 : Int) < f9 ∧ f9 < 2 ^ 30 := by
    have : f9.natAbs < 2 ^ 30 := hf f9 (by simp)
    omega
  clear er hf hl hn
  intro y hy
  simp only [List.mem_cons, List.not_mem_nil, or_false] at hy
  have nb : ∀ {z : Int}, -(2 ^ 40 : Int) ≤ z → z ≤ 2 ^ 40 → z.natAbs ≤ 2 ^ 40 := fun h1 h2 => by omega
  rcases hy with e | e | e | e | e | e | e <;> (subst e; exact nb (by omega) (by omega))
theorem ini_bd {fs : List Frm} {a : Frm} (hfs : ∀ f ∈ fs, FrmOk f) (ha : FrmOk a) (i l : Nat) : ((tbOf 6 (3 + fs.length) (iniB fs a)).T i l).natAbs ≤ 2 ^ 40 := by
  have gd : ∀ {r : List Int}, (∀ y ∈ r, y.natAbs ≤ 2 ^ 40) → (r.getD l 0).natAbs ≤ 2 ^ 40 := fun {r} h => by
    rw [List.getD_eq_getElem?_getD]
    cases e : r[l]? with
    | none => decide
    | some v => exact h v (List.mem_of_getElem? e)
  show (((iniB fs a).rows.getD i []).getD l 0).natAbs ≤ 2 ^ 40
  rw [ini_row]
  have sl : ∀ c : Int, ∀ y ∈ slk c, y.natAbs ≤ 2 ^ 40 := fun c y hy => by
    unfold slk at hy
    rcases List.mem_append.mp hy with hy | hy
    · obtain ⟨p, _, rfl⟩ := List.mem_map.mp hy
      split <;> decide
    · rw [List.mem_singleton.mp hy]; decide
  have ng : ∀ {r : List Int}, (∀ y ∈ r, y.natAbs ≤ 2 ^ 40) → ∀ y ∈ (r.take 6).map (fun e => -e), y.natAbs ≤ 2 ^ 40 := fun h y hy => by
    obtain ⟨z, hz, rfl⟩ := List.mem_map.mp hy
    rw [Int.natAbs_neg]
    exact h z (List.mem_of_mem_take hz)
  split
  · exact gd (sl 2)
  split
  · exact gd (sl 3)
  split
  · exact gd (sl 4)
  split
  · rename_i h
    refine gd fun y hy => ?_
    unfold noRow at hy
    rcases List.mem_append.mp hy with hy | hy
    · exact ng (rowOf_bd (hfs _ (List.getElem_mem h))) y hy
    · exact rowOf_bd (hfs _ (List.getElem_mem h)) y (List.mem_of_mem_drop hy)
  split
  · refine gd fun y hy => ?_
    unfold goalRow at hy
    rcases List.mem_append.mp hy with hy | hy
    · exact ng (rowOf_bd ha) y hy
    · rw [List.mem_singleton.mp hy]; decide
  · exact Nat.zero_le _
theorem ini_brd {fs : List Frm} {a : Frm} (hn : fs.length ≤ 90) (hfs : ∀ f ∈ fs, FrmOk f) (ha : FrmOk a) : Brd (3 + fs.length) (iniB fs a) (phi 6 (tbOf 6 (3 + fs.length) (iniB fs a))) :=
  ⟨ini_shp fs a, by omega, (ini_ini fs a).vars, (ini_ini fs a).good, fun v c hc => phi_bd (Nat.pos_of_ne_zero (by decide)) (fun i l _ => ini_bd hfs ha i l) v c hc⟩
/-- a fraction's size -/
def SzR (n : Nat) (r : Rat) : Prop := r.num.natAbs < 2 ^ n ∧ r.den < 2 ^ n
theorem szR_div {n : Nat} {t m : Int} (hm : 0 < m) (ht : t.natAbs < 2 ^ n) (hm2 : m.natAbs < 2 ^ n) : SzR n (Rat.divInt t m) := by
  have h := frac_eq (t := t) hm
  unfold dq at h
  simp only [Dt.tup.injEq, List.cons.injEq, Dt.int.injEq, and_true] at h
  obtain ⟨h1, h2⟩ := h
  have hg : (0 : Int) < (Int.gcd t m : Nat) := by
    have := Int.gcd_pos_of_ne_zero_right t (show m ≠ 0 by omega)
    omega
  have dv : ∀ k : Int, (k / ((Int.gcd t m : Nat) : Int)).natAbs ≤ k.natAbs := fun k => by
    obtain ⟨g, hg'⟩ : ∃ g : Nat, g = Int.gcd t m := ⟨_, rfl⟩
    rw [← hg'] at hg ⊢
    by_cases h0 : 0 ≤ k
    · have a1 := Int.ediv_nonneg h0 (Int.le_of_lt hg)
      have a2 : k / (g : Int) ≤ k := Int.ediv_le_self _ h0
      omega
    · have a1 : k / (g : Int) < 0 := Int.ediv_neg_of_neg_of_pos (by omega) hg
      have a2 : k ≤ k / (g : Int) := by
        refine Int.le_ediv_of_mul_le hg ?_
        have : k * (g : Int) ≤ k * 1 := Int.mul_le_mul_of_nonpos_left (by omega) (by omega)
        omega
      omega
  refine ⟨?_, ?_⟩
  · rw [h1]; exact Nat.lt_of_le_of_lt (dv t) ht
  · have := dv m
    rw [← h2] at this
    have e : ((Rat.divInt t m).den : Int).natAbs = (Rat.divInt t m).den := Int.natAbs_natCast _
    omega
def SzT (n : Nat) (t : List (List Rat)) : Prop := ∀ r ∈ t, ∀ s ∈ r, SzR n s
theorem bnd_small' : bnd 6 (2 ^ 40) < 2 ^ 300 := by decide +kernel
def ans (K : PySem.W.Frag) (g b f n : Dt) : Dt := .ins (He.ga K "Answer") [("greatest", g), ("best", b), ("factor", f), ("numbers", n)]
def pr_Answer___init__ (K : PySem.W.Frag) : Pr := fun ds ob QD => ∃ (a : Addr) (g b f n : Dt), ds = [.ptr a, g, b, f, n] ∧ ob a = some (.ins (He.ga K "Answer") []) ∧ QD .non (ob.put a (.ins (He.ga K "Answer") [("greatest", g), ("best", b), ("factor", f), ("numbers", n)]))
theorem len_Answer___init__ {ds ob Q} (p : pr_Answer___init__ K ds ob Q) : ds.length = 5 := by obtain ⟨_, _, _, _, _, rfl, _⟩ := p; rfl
theorem sc_Answer___init__ : FnScope ["self", "greatest", "best", "factor", "numbers"] ["self", "greatest", "best", "factor", "numbers"] (defScope (inClass (topS 59) 0)) := ⟨rfl, rfl, rfl, by decide +kernel, rfl, by decide +kernel, by decide +kernel⟩
theorem ok_Answer___init__ (T : Txt K mg base) : CalM P w K mg base 1 "Answer" "__init__" ["self", "greatest", "best", "factor", "numbers"] (spD K (pr_Answer___init__ K)) := by
  refine cal_mkM T (by decide +kernel) (T.me "Answer" "__init__" "Answer.__init__" 59 0 (by decide +kernel)) sc_Answer___init__ (fun _ _ _ _ _ _ us hl => match us, hl with | [_, _, _, _, _], _ => rfl) (fun ds ob Q p => len_Answer___init__ p) fun cdv A outer s H f E hr =>
    ⟨_, (pss_cons (ps_fldK (K := K) rfl (pv 0) (pv 1))
      (pss_cons (ps_fldK (K := K) rfl (pv 0) (pv 2))
      (pss_cons (ps_fldK (K := K) rfl (pv 0) (pv 3))
      (pss_one (ps_fldK (K := K) rfl (pv 0) (pv 4)))))), fun b ds ob Q p => ?_⟩
  obtain ⟨a, g, bb, ff, n, rfl, ho, q⟩ := p
  simp only [startD, List.map_nil]
  refine dx_seq ?_
  refine dx_fld (T.cls "Answer" (by decide +kernel)).1 (T.noat "Answer" "greatest" (by decide +kernel)) ?_
  repeat walk_at "d"
  refine ⟨a, _, rfl, ho, by decide, ?_⟩
  refine dx_seq ?_
  refine dx_fld (T.cls "Answer" (by decide +kernel)).1 (T.noat "Answer" "best" (by decide +kernel)) ?_
  repeat walk_at "d"
  refine ⟨a, _, rfl, Own.put_same, putD_lt (n := 999) (by decide), ?_⟩
  refine dx_seq ?_
  refine dx_fld (T.cls "Answer" (by decide +kernel)).1 (T.noat "Answer" "factor" (by decide +kernel)) ?_
  repeat walk_at "d"
  refine ⟨a, _, rfl, Own.put_same, putD_lt (n := 999) (putD_lt (n := 998) (by decide)), ?_⟩
  refine dx_fld (T.cls "Answer" (by decide +kernel)).1 (T.noat "Answer" "numbers" (by decide +kernel)) ?_
  repeat walk_at "d"
  refine ⟨a, _, rfl, Own.put_same, putD_lt (n := 999) (putD_lt (n := 998) (putD_lt (n := 997) (by decide))), ?_⟩
  refine endD_all ?_
  simp only [Own.put_put]
  exact q
/-- what is said of an answer: nothing fits, or the greatest worth, a table that reaches it -/
def Sol1 (K : PySem.W.Frag) (fs : List Frm) (aim : Frm) (Q : Dt → Prop) : Prop :=
  (∀ l : List Int, (∀ t, TblOk t → Keep fs t → False) → Q (ans K .non .non (.int 0) (.tup (l.map Dt.int)))) ∧
  ∀ (t : List (List Rat)) (d : Int) (l : List Int), TblOk t → Keep fs t → SzT 310 t → SzR 400 (wrt aim t) → (∀ t', TblOk t' → Keep fs t' → wrt aim t' ≤ wrt aim t) → Q (ans K (dq (wrt aim t)) (dtab t) (.int d) (.tup (l.map Dt.int)))
def pr_solved (K : PySem.W.Frag) : PrP := fun ds Q => ∃ (fs : List Frm) (aim : Frm), ds = [.lst (fs.map dfrm), dfrm aim] ∧ fs.length ≤ 90 ∧ (∀ f ∈ fs, FrmOk f) ∧ FrmOk aim ∧ Sol1 K fs aim Q
theorem len_solved {ds Q} (p : pr_solved K ds Q) : ds.length = 2 := by obtain ⟨_, _, rfl, _⟩ := p; rfl
theorem sc_solved : FnScope ["rooms", "aim", "board", "place", "greatest", "numbers"] ["rooms", "aim"] (defScope (topS 60)) := ⟨rfl, rfl, rfl, by decide +kernel, rfl, by decide +kernel, by decide +kernel⟩
theorem ok_solved (T : Txt K mg base) : Cal P w K mg base 6 "solved" ["rooms", "aim"] (spP K (pr_solved K)) := by
  refine cal_pure (T.fn "solved" 60 (by decide +kernel)) sc_solved (fun _ _ _ _ _ _ us hl => match us, hl with | [_, _], _ => rfl) (fun ds Q p => len_solved p) fun cdv A outer s H f E hr =>
    ⟨_, (pss_cons (ps_set (i := 2) sc_solved.nd rfl (.inl rfl) (pe_new (K := K) rfl (ok_Board___init__ (K := K) T) (hr.mono (by decide)) (by rfl) (pa_cons (pv 0) (pa_cons (pv 1) pa_nil))))
      (pss_cons (ps_set (i := 3) sc_solved.nd rfl (.inl rfl) (pe_calM0 (K := K) rfl (ok_Board_settle (K := K) T) (by decide) (hr.mono (by decide)) (pv 2)))
      (pss_cons (ps_if (pt_cmpR op_notN (pv 3) pe_non (nomark _)) (pss_one (ps_ret (pe_new (K := K) rfl (ok_Answer___init__ (K := K) T) (hr.mono (by decide)) (by rfl) (pa_cons pe_non (pa_cons pe_non (pa_cons pe_int (pa_cons (pe_calM (K := K) rfl (ok_Board_numbers_in (K := K) T) (by decide) (hr.mono (by decide)) (pv 2) (pa_cons (pe_ixK (K := K) rfl (pe_fldK (K := K) rfl (pv 2)) (pv 3)) (pa_cons (pe_ixK (K := K) rfl (pe_fldK (K := K) rfl (pv 2)) (pv 3)) (pa_cons (pe_cbK (r := DL.rLen K) call_len' boot_len (T.free "len" (by decide +kernel)) (by rfl) (pa_cons (pv 0) pa_nil)) pa_nil)))) pa_nil))))))) pss_nil)
      (pss_cons (ps_expr (pe_calM0 (K := K) rfl (ok_Board_climb (K := K) T) (by decide) (hr.mono (by decide)) (pv 2)))
      (pss_cons (ps_set (i := 4) sc_solved.nd rfl (.inl rfl) (pe_cal (ok_fraction (K := K) T) (hr.mono (by decide)) (by rfl) (pa_cons (pe_op op_add (pe_ixK (K := K) rfl (pe_ixK (K := K) rfl (pe_fldK (K := K) rfl (pv 2)) (pe_un un_neg pe_int)) (pe_un un_neg pe_int)) (pe_op op_mulW (pe_fldK (K := K) rfl (pv 2)) (pe_fldK (K := K) rfl (pv 2)))) (pa_cons (pe_op op_mulW (pe_gint (T.gint "SCALE" 12 (by decide +kernel)) (by rfl)) (pe_fldK (K := K) rfl (pv 2))) pa_nil))))
      (pss_cons (ps_set (i := 5) sc_solved.nd rfl (.inl rfl) (pe_calM (K := K) rfl (ok_Board_numbers_in (K := K) T) (by decide) (hr.mono (by decide)) (pv 2) (pa_cons (pe_ixK (K := K) rfl (pe_fldK (K := K) rfl (pv 2)) (pe_un un_neg pe_int)) (pa_cons pe_non (pa_cons (pe_cbK (r := DL.rLen K) call_len' boot_len (T.free "len" (by decide +kernel)) (by rfl) (pa_cons (pv 0) pa_nil)) pa_nil)))))
      (pss_one (ps_ret (pe_new (K := K) rfl (ok_Answer___init__ (K := K) T) (hr.mono (by decide)) (by rfl) (pa_cons (pv 4) (pa_cons (pe_calM0 (K := K) rfl (ok_Board_table (K := K) T) (by decide) (hr.mono (by decide)) (pv 2)) (pa_cons (pe_fldK (K := K) rfl (pv 2)) (pa_cons (pv 5) pa_nil))))))))))))), fun b ds Q p => ?_⟩
  obtain ⟨fs, aim, rfl, hn, hfs, ha, q1, q2⟩ := p
  simp only [startD, List.map_nil]
  have hfl : ∀ f ∈ fs, f.fac.length = 10 := fun f hf => (hfs f hf).1
  have hB0 := ini_brd hn hfs ha
  refine dx_seq ?_
  refine dx_asg ?_
  refine de_make ?_
  repeat walk_at "b"
  intro a haa
  refine ⟨a, fs, aim, rfl, Own.put_same, hn, hfs, ha, fun ob1 a1 a2 a3 rs O1 => ?_⟩
  refine ⟨rfl, ?_⟩
  repeat walk_at "b"
  refine ⟨.inl ⟨a, _, rfl, O1.self, by rfl⟩, ?_⟩
  repeat walk_at "b"
  have K0 : Kept 6 (3 + fs.length) (tbOf 6 (3 + fs.length) (iniB fs aim)) (tbOf 6 (3 + fs.length) (iniB fs aim)) (phi 6 (tbOf 6 (3 + fs.length) (iniB fs aim))) := hB0.kept
  refine ⟨a, a1, a2, a3, rs, iniB fs aim, 3 + fs.length, _, rfl, O1, hB0, fun ob2 rs2 B2 k2 O2 hB2 R2 eb2 F2 => ?_, fun ob2 rs2 B2 k2 p O2 hB2 R2 hp hlow hrow => ?_⟩
  · repeat walk_at "b"
    refine ⟨.inl ⟨a, _, rfl, O2.self, by rfl⟩, ?_⟩
    repeat walk_at "b"
    have K2 := R2.kept K0
    refine ⟨a, a1, a2, a3, rs2, B2, 3 + fs.length, _, rfl, O2, hB2, F2, fun x hx X => ini_bdd x hx ((K2.sol x 0).mpr X), fun ob3 rs3 B3 k3 O3 hB3 R3 eb3 F3 hz3 => ?_⟩
    have K3 := R3.kept K2
    have hrl : rs3.length = (3 + fs.length) + 1 := by rw [O3.len]; exact hB3.shp.rows
    obtain ⟨g1, g2⟩ := hB3.good.bound (Nat.pos_of_ne_zero (by decide)) hB3.bd
    have hd0 : 0 < B3.bottom := hB3.good.hd
    have hd1 : B3.bottom.natAbs < 2 ^ 300 := Nat.lt_of_le_of_lt g1 bnd_small'
    have hent : ∀ i j, i ≤ 3 + fs.length → j ≤ 6 → (ent B3 i j).natAbs < 2 ^ 300 := fun i j hi hj => Nat.lt_of_le_of_lt (g2 i j hi hj) bnd_small'
    have hbase : B3.base = (iniB fs aim).base := eb3.trans eb2
    have hbs : B3.base.natAbs < 2 ^ 41 := by
      rw [hbase]
      have h7 := rowOf_len aim
      have : (iniB fs aim).base ∈ rowOf aim := by
        show (rowOf aim).getD 6 0 ∈ _
        rw [List.getD_eq_getElem?_getD, List.getElem?_eq_getElem (by omega)]
        exact List.getElem_mem _
      exact Nat.lt_of_le_of_lt (rowOf_bd ha _ this) (by decide)
    obtain ⟨x, hxa, hxs, t1, t2, t3, t4⟩ := end_best hfl ha.1 K3 F3 hz3
    have hS : SolB (3 + fs.length) B3 x := ⟨hxa, fun i hi => hxs i (by omega)⟩
    repeat walk_at "b"
    refine dr_rowsL O3 hrl ?_
    repeat walk_at "b"
    refine dr_intsL (n := 6) (O3.row (3 + fs.length) (by omega)) (hB3.shp.row _ (Nat.le_refl _)) ?_
    repeat walk_at "b"
    refine dr_I (wmul hd1 hbs) ?_
    repeat walk_at "b"
    refine dr_I (wmul (a := 10) (by decide) hd1) ?_
    repeat walk_at "b"
    have h12 : (12 * B3.bottom).natAbs < 2 ^ 310 := wide_lt (i := 12) (j := B3.bottom) (a := 10) (b := 300) (by decide) hd1
    refine ⟨_, _, rfl, by omega, Nat.lt_of_lt_of_le h12 (Nat.pow_le_pow_right (by decide) (by decide)), ?_⟩
    have eg : Rat.divInt ((B3.rows.getD (3 + fs.length) []).getD 6 0 + B3.bottom * B3.base) (12 * B3.bottom) = wrt aim (tblOf (12 * B3.bottom) (mixA x B3.bottom)) := by rw [hbase]; exact t3.symm
    rw [eg]
    repeat walk_at "b"
    refine ⟨.inl ⟨a, _, rfl, O3.self, by rfl⟩, ?_⟩
    repeat walk_at "b"
    refine dr_rowsL O3 hrl ?_
    repeat walk_at "b"
    rw [List.length_map]
    refine ⟨a, a1, a2, a3, rs3, B3, fs.length, _, rs3[3 + fs.length]'(by omega), _, .non, rfl, O3, hB3, O3.row _ (by omega), hB3.shp.row _ (Nat.le_refl _), .inl rfl, fun l => ?_⟩
    repeat walk_at "b"
    refine de_frzI ?_
    refine de_make ?_
    repeat walk_at "b"
    refine ⟨.inl ⟨a, _, rfl, O3.self, by rfl⟩, ?_⟩
    repeat walk_at "b"
    refine ⟨a, a1, a2, a3, rs3, B3, 3 + fs.length, _, x, rfl, O3, hB3, hS, ?_⟩
    repeat walk_at "b"
    intro y hy
    refine ⟨y, _, _, _, _, rfl, Own.put_same, rfl, y, _, _, rfl, Own.put_same, ?_⟩
    have xb : ∀ v, v < 6 → (x v).natAbs < 2 ^ 300 := fun v hv => by
      rcases hB3.vars.all v (by omega) with ⟨j, hj, e⟩ | ⟨i, hi, e⟩
      · rw [← e, hS.ab j hj]; exact Nat.two_pow_pos _
      · rw [← e, hS.as i hi]; exact hent i 6 (by omega) (Nat.le_refl _)
    refine q2 (tblOf (12 * B3.bottom) (mixA x B3.bottom)) B3.bottom l t1 t2 ?_ ?_ (fun t' h1 h2 => by
      have e := t4 t' h1 h2
      rw [← t3] at e
      exact e)
    · have x0 := xb 0 (by decide); have x1 := xb 1 (by decide); have x2 := xb 2 (by decide); have x3 := xb 3 (by decide); have x4 := xb 4 (by decide); have x5 := xb 5 (by decide)
      have p10 : (2 : Nat) ^ 310 = 1024 * 2 ^ 300 := by rw [show (310 : Nat) = 10 + 300 from rfl, Nat.pow_add]
      have mb : ∀ y ∈ mixA x B3.bottom, y.natAbs < 2 ^ 310 := by
        rw [p10]
        generalize (2 : Nat) ^ 300 = W at *
        have sp : ∀ {z : Int}, z.natAbs < W → -(W : Int) < z ∧ z < (W : Int) := fun h => by omega
        have nb : ∀ {z : Int}, -(1024 * (W : Int)) < z → z < 1024 * (W : Int) → z.natAbs < 1024 * W := fun h1 h2 => by omega
        have s0 := sp x0; have s1 := sp x1; have s2 := sp x2; have s3 := sp x3; have s4 := sp x4; have s5 := sp x5; have sd := sp hd1
        clear x0 x1 x2 x3 x4 x5
        intro y hy
        simp only [mixA, List.mem_cons, List.not_mem_nil, or_false] at hy
        rcases hy with e | e | e | e | e | e | e | e | e | e <;> (subst e; exact nb (by omega) (by omega))
      have dv : ∀ i, SzR 310 (Rat.divInt ((mixA x B3.bottom).getD i 0) (12 * B3.bottom)) := fun i => by
        refine szR_div (by omega) ?_ h12
        rw [List.getD_eq_getElem?_getD]
        cases e : (mixA x B3.bottom)[i]? with
        | none => exact Nat.two_pow_pos _
        | some v => exact mb v (List.mem_of_getElem? e)
      intro r hr s hs
      unfold tblOf at hr
      simp only [List.mem_cons, List.not_mem_nil, or_false] at hr
      rcases hr with e | e | e | e <;> (subst e; simp only [List.mem_cons, List.not_mem_nil, or_false] at hs)
      · subst hs; exact dv 0
      · rcases hs with e | e <;> (subst e; exact dv _)
      · rcases hs with e | e | e <;> (subst e; exact dv _)
      · rcases hs with e | e | e | e <;> (subst e; exact dv _)
    · rw [← eg]
      refine szR_div (by omega) ?_ (Nat.lt_of_lt_of_le h12 (Nat.pow_le_pow_right (by decide) (by decide)))
      have e1 := hent (3 + fs.length) 6 (Nat.le_refl _) (Nat.le_refl _)
      have e2 := wide_lt hd1 hbs
      have p1 : (2 : Nat) ^ 300 ≤ 2 ^ 399 := Nat.pow_le_pow_right (by decide) (by decide)
      have p2 : (2 : Nat) ^ (300 + 41) ≤ 2 ^ 399 := Nat.pow_le_pow_right (by decide) (by decide)
      have p3 : (2 : Nat) ^ 400 = 2 ^ 399 + 2 ^ 399 := by rw [Nat.pow_succ]; omega
      have e1 : ((B3.rows.getD (3 + fs.length) []).getD 6 0).natAbs < 2 ^ 300 := e1
      rw [p3]
      have := Int.natAbs_add_le ((B3.rows.getD (3 + fs.length) []).getD 6 0) (B3.bottom * B3.base)
      omega
  · have hrl : rs2.length = (3 + fs.length) + 1 := by rw [O2.len]; exact hB2.shp.rows
    repeat walk_at "b"
    refine de_frzI ?_
    refine de_make ?_
    repeat walk_at "b"
    refine ⟨.inl ⟨a, _, rfl, O2.self, by rfl⟩, ?_⟩
    repeat walk_at "b"
    refine dr_rowsO O2 (n := p) (by omega) ?_
    repeat walk_at "b"
    refine dr_ints O2.aside (n := p) (by rw [hB2.shp.aside]; exact hp) ?_
    repeat walk_at "b"
    rw [List.length_map]
    refine ⟨a, a1, a2, a3, rs2, B2, fs.length, _, rs2[p]'(by omega), _, _, rfl, O2, hB2, O2.row p (by omega), hB2.shp.row p (by omega), .inr ⟨p, hp, rfl⟩, fun l => ?_⟩
    repeat walk_at "b"
    intro y hy
    refine ⟨y, _, _, _, _, rfl, Own.put_same, rfl, y, _, _, rfl, Own.put_same, ?_⟩
    exact q1 l fun t ht hk => end_none hfl ha.1 (R2.kept K0) hp hlow hrow ht hk
end
end Cab
/-! W5a -/
set_option Elab.async false
set_option linter.all false
set_option maxRecDepth 100000
set_option maxHeartbeats 4000000
namespace Cab
open PySem PySem.Spec PyProof.Rows L2 DL
local macro_rules | `(tactic| walk_at "d") => `(tactic| first
  | with_reducible refine dx_seq ?_ | with_reducible refine dx_ret ?_ | with_reducible refine dx_asg ?_ | ((with_reducible refine dg_name ?_); dsimp only [List.set])
  | with_reducible refine de_op ?_ | ((with_reducible refine' de_var ?h1 ?_); (case h1 => exact rfl)) | with_reducible refine de_int ?_ | with_reducible refine da_cons ?_ | with_reducible refine da_nil ?_
  | ((with_reducible refine' dr_xT ?h1 ?_); (case h1 => exact rfl)) | ((with_reducible refine' dr_xL ?h1 ?_); (case h1 => exact rfl)) | with_reducible refine dr_I0 ?_ | with_reducible refine dr_I0b ?_ | with_reducible refine de_callP ?_ | with_reducible refine de_callA ?_
  | with_reducible refine de_cb ?_ | with_reducible refine de_un ?_ | with_reducible refine du_I ?_ | with_reducible refine de_bl ?_ | with_reducible refine de_non ?_ | with_reducible refine de_str ?_ | with_reducible refine de_ty ?_
  | with_reducible refine dr_eqI ?_ | with_reducible refine dr_neI ?_ | with_reducible refine dr_eqS ?_ | with_reducible refine dr_isN ?_ | with_reducible refine dr_notN ?_
  | with_reducible refine dt_and ?_ | with_reducible refine dt_or ?_ | with_reducible refine dt_not ?_ | with_reducible refine de_if ?_ | with_reducible refine de_andV ?_ | with_reducible refine de_orV ?_ | with_reducible refine de_notV ?_
  | ((with_reducible refine dt_test ?_)) | ((with_reducible refine dt_B ?_))
  | with_reducible refine dx_par' ?_ | with_reducible refine dx_par3' ?_ | with_reducible refine ex_bl ?_ | with_reducible refine ex_int ?_ | with_reducible refine isi_int ?_ | with_reducible refine isi_intB ?_ | with_reducible refine isi_tup ?_ | with_reducible refine isi_tupS ?_ | with_reducible refine isi_str ?_ | with_reducible refine de_chain ?_ | with_reducible refine dt_chain ?_ | with_reducible refine iteT ?_ | with_reducible refine iteF ?_ | with_reducible refine dx_if ?_ | with_reducible refine dx_drop ?_ | with_reducible refine dx_cont ?_ | with_reducible refine dx_next ?_
  | with_reducible refine dc_abs ?_ | with_reducible refine dc_lenT ?_ | with_reducible refine dc_lenL ?_ | with_reducible refine dc_int ?_ | with_reducible refine dc_max2 ?_ | with_reducible refine dc_min2 ?_ | with_reducible refine dc_tupL ?_
  | with_reducible refine de_fldF ?_ ?_ ?_ | with_reducible refine de_tup ?_ | ((with_reducible refine len_ok ?h1 ?_); (case h1 => exact rfl))
  | ((with_reducible refine iteT' ?h1 ?_); (case h1 => rfl)) | ((with_reducible refine iteF' ?h1 ?_); (case h1 => rfl))
  | with_reducible refine ex_int2 ?_ | ((with_reducible refine' dg_tup ?h1 ?_); (case h1 => rfl)) | with_reducible refine dgs_cons ?_ | with_reducible refine dgs_nil ?_ | with_reducible refine dc_lenX ?_ | with_reducible refine dr_inX ?_
  | dsimp only [List.set])
/-- a comprehension's targets -/
local macro_rules | `(tactic| walk_at "w") => `(tactic| repeat first
  | exact wp_name (by simp) | exact mo_name | exact wps_nil | exact mos_nil
  | refine wp_tup ?_ | refine wps_cons ?_ ?_ ?_ ?_ | refine mo_tup ?_ | refine mos_cons ?_ ?_)
/-- ends that are told by a value: a bool, a pair -/
local macro_rules | `(tactic| walk_at "e") => `(tactic| first
  | walk_at "d"
  | ((with_reducible refine Exists.intro _ (And.intro rfl ?_))))
section
variable {P : Program} {w : World} {K : PySem.W.Frag} {mg : Str → Option Value} {base : Heap}
/-! ### tables -/
theorem SzR.up {n m : Nat} {r : Rat} (h : SzR n r) (le : n ≤ m) : SzR m r := ⟨Nat.lt_of_lt_of_le h.1 (Nat.pow_le_pow_right (by decide) le), Nat.lt_of_lt_of_le h.2 (Nat.pow_le_pow_right (by decide) le)⟩
theorem SzR.sz {n : Nat} {r : Rat} (h : SzR n r) (le : n ≤ 4000) : Sz r := h.up le
theorem SzR.add {n m : Nat} {r s : Rat} (hr : SzR n r) (hs : SzR m s) : SzR (n + m + 1) (r + s) := by
  have e : r + s = Rat.divInt (r.num * s.den + s.num * r.den) ((r.den : Int) * (s.den : Int)) := by
    rw [Rat.add_def, Rat.normalize_eq_mkRat, show ((r.den : Int) * (s.den : Int)) = ((r.den * s.den : Nat) : Int) by rw [Int.natCast_mul], Rat.divInt_ofNat]
  have pr := r.den_pos
  have ps := s.den_pos
  have a1 := wide_lt (i := r.num) (j := (s.den : Int)) hr.1 hs.2
  have a2 := wide_lt (i := s.num) (j := (r.den : Int)) hs.1 hr.2
  have a3 := wide_lt (i := (r.den : Int)) (j := (s.den : Int)) hr.2 hs.2
  rw [e]
  refine szR_div (Int.mul_pos (by omega) (by omega)) ?_ ?_
  · have := Int.natAbs_add_le (r.num * s.den) (s.num * r.den)
    rw [Nat.add_comm m n] at a2
    rw [Nat.pow_succ]
    omega
  · rw [Nat.pow_succ]; omega
theorem SzR.mul {n m : Nat} {k : Int} {r : Rat} (hk : k.natAbs < 2 ^ n) (hr : SzR m r) : SzR (n + m) ((k : Rat) * r) := by
  have pr := r.den_pos
  have e : (k : Rat) * r = Rat.divInt (k * r.num) r.den := by
    rw [Rat.divInt_eq_div, Rat.intCast_mul]
    have h2 : r = (r.num : Rat) / ((r.den : Int) : Rat) := by
      rw [← Rat.divInt_eq_div]; exact (Rat.num_divInt_den r).symm
    conv => lhs; rw [h2]
    grind
  have a1 := wide_lt (i := k) (j := r.num) hk hr.1
  rw [e]
  refine szR_div (by omega) a1 ?_
  exact Nat.lt_of_lt_of_le (show ((r.den : Int)).natAbs < 2 ^ m from hr.2) (Nat.pow_le_pow_right (by decide) (by omega))
/-- a row of shares as the program checks it -/
structure RowOk (r : List Rat) : Prop where
  ne : 0 < r.length
  small : r.length ≤ 4
  falls : ∀ i, i + 1 < r.length → r.getD (i + 1) 0 ≤ r.getD i 0
  last : 0 ≤ r.getD (r.length - 1) 0
  one : r.foldl (· + ·) 0 = 1
theorem foldl_take_succ {α β : Type} {f : β → α → β} {b : β} {l : List α} {i : Nat} {a : α} (h : l[i]? = some a) : (l.take (i + 1)).foldl f b = f ((l.take i).foldl f b) a := by
  rw [List.take_add_one, h]
  simp [List.foldl_append]
theorem dq_zero : dq 0 = .tup [.int 0, .int 1] := by rfl
theorem dq_one : dq 1 = .tup [.int 1, .int 1] := by rfl
theorem num_nn {r : Rat} : 0 ≤ r.num ↔ 0 ≤ r := Rat.num_nonneg
theorem rat_ext {r s : Rat} (h1 : r.num = s.num) (h2 : (r.den : Int) = s.den) : r = s := Rat.ext h1 (by omega)
def pr_is_row : PrP := fun ds Q => ∃ r : List Rat, ds = [.tup (r.map dq), .int r.length] ∧ RowOk r ∧ (∀ s ∈ r, SzR 310 s) ∧ Q (.bl true)
theorem len_is_row {ds Q} (p : pr_is_row ds Q) : ds.length = 2 := by obtain ⟨_, rfl, _⟩ := p; rfl
theorem sc_is_row : FnScope ["value", "count", "share", "total", "falls", "one", "other"] ["value", "count"] (defScope (topS 62)) := ⟨rfl, rfl, rfl, by decide +kernel, rfl, by decide +kernel, by decide +kernel⟩
theorem ok_is_row (T : Txt K mg base) : Cal P w K mg base 4 "is_row" ["value", "count"] (spP K pr_is_row) := by
  refine cal_pure (T.fn "is_row" 62 (by decide +kernel)) sc_is_row (fun _ _ _ _ _ _ us hl => match us, hl with | [_, _], _ => rfl) (fun ds Q p => len_is_row p) fun cdv A outer s H f E hr =>
    ⟨_, (pss_cons (ps_if (PW.pt (pw_or (pt_not (pt_val (pe_cbK (r := rIsi K) call_isi (by decide +kernel) (T.free "isinstance" (by decide +kernel)) (by rfl) (pa_cons (pv 0) (pa_cons (pe_gty (n := "tuple") (T.free "tuple" (by decide +kernel)) (by decide +kernel) (by rfl)) pa_nil))))) (pw_or (pt_cmpR op_ne (pe_cbK (r := DL.rLen K) call_len' boot_len (T.free "len" (by decide +kernel)) (by rfl) (pa_cons (pv 0) pa_nil)) (pv 1) (nomark _)) (pw_or1 (pt_not (pt_val (pe_cbK (r := rAll K) (cr_all rfl) (by decide +kernel) (T.free "all" (by decide +kernel)) (by rfl) (pa_cons (pe_lc (own := [("share", 2)]) (g := (gName 2)) (tt := tYes) rfl sc_is_row.nd (pi_tupK (K := K) rfl (pv 0)) (blkOk_by (own := [("share", 2)]) (N := ["value", "count", "share", "total", "falls", "one", "other"]) (sc := (defScope (topS 62))) (by decide +kernel)) (fun _ _ _ _ _ => (pg_name (i := 2) sc_is_row.nd rfl (Or.inl rfl))) (fun _ _ _ _ _ => pts_nil) (fun _ _ _ _ _ => (pe_cal (ok_is_fraction (K := K) T) (hr.mono (by decide)) (by rfl) (pa_cons (pv 2) pa_nil)))) pa_nil)))))))) (pss_one (ps_ret pe_bl)) pss_nil)
      (pss_cons (ps_set (i := 3) sc_is_row.nd rfl (.inl rfl) (pe_tup (pa_cons pe_int (pa_cons pe_int pa_nil))))
      (pss_cons (ps_for PassesOwn.never rfl (pi_tupK (K := K) rfl (pv 0)) (pg_name (i := 2) sc_is_row.nd rfl (.inl rfl))
      (pss_one (ps_set (i := 3) sc_is_row.nd rfl (.inl rfl) (pe_cal (ok_plus (K := K) T) (hr.mono (by decide)) (by rfl) (pa_cons (pv 3) (pa_cons (pv 2) pa_nil))))))
      (pss_cons (ps_set (i := 4) sc_is_row.nd rfl (.inl rfl) (pe_cbK (r := rAll K) (cr_all rfl) (by decide +kernel) (T.free "all" (by decide +kernel)) (by rfl) (pa_cons (pe_lc (own := [("one", 5), ("other", 6)]) (g := (gTup K 2 (gCons (gName 5) (gCons (gName 6) gNil)))) (tt := tYes) rfl sc_is_row.nd (pi_zipK (K := K) rfl (by rfl) (T.free "zip" (by decide +kernel)) (pa_cons (pv 0) (pa_cons (pe_slice (r := rSlT K) sl_tup (pv 0) (po_some pe_int) po_none) pa_nil))) (blkOk_by (own := [("one", 5), ("other", 6)]) (N := ["value", "count", "share", "total", "falls", "one", "other"]) (sc := (defScope (topS 62))) (by decide +kernel)) (fun _ _ _ _ _ => (pg_tupK (K := K) (n := 2) rfl rfl (pgs_cons (pg_name (i := 5) sc_is_row.nd rfl (Or.inl rfl)) (pgs_cons (pg_name (i := 6) sc_is_row.nd rfl (Or.inl rfl)) pgs_nil)))) (fun _ _ _ _ _ => pts_nil) (fun _ _ _ _ _ => (pe_not (pe_cal (ok_is_less (K := K) T) (hr.mono (by decide)) (by rfl) (pa_cons (pv 5) (pa_cons (pv 6) pa_nil)))))) pa_nil)))
      (pss_one (ps_ret (pe_and (pv 4) (pe_and (pe_cmpR op_ge (pe_ixK (K := K) rfl (pe_ixK (K := K) rfl (pv 0) (pe_un un_neg pe_int)) pe_int) pe_int (nomark _)) (pe_one (pe_cmpR (op_eqDK (K := K) rfl (hu64 hr)) (pv 3) (pe_tup (pa_cons pe_int (pa_cons pe_int pa_nil))) (nomark _))))))))))), fun b ds Q p => ?_⟩
  obtain ⟨r, rfl, hr1, hsz, q⟩ := p
  obtain ⟨hne, hsm, hfl, hla, h1⟩ := hr1
  simp only [startD, List.map_nil]
  repeat walk_at "d"
  rw [List.length_map]
  refine iteF' (by simp) ?_
  repeat walk_at "d"
  refine de_lcM (by walk_at "w") (by walk_at "w") ?_
  refine di_tup ?_
  repeat walk_at "d"
  refine ⟨_, rfl, by rw [List.length_map]; omega, fun _ _ => trivial, fun _ => .bl true, ?_, ?_⟩
  · intro b i x hx
    obtain ⟨s, hs, rfl⟩ := map_get hx
    dsimp only [wipeD, List.map, List.set]
    repeat walk_at "d"
    refine ⟨s, rfl, ?_⟩
    exact ⟨rfl, rfl⟩
  rw [List.length_map, show (List.range r.length).map (fun _ => Dt.bl true) = ((List.range r.length).map fun _ => true).map Dt.bl by rw [List.map_map]; rfl]
  repeat walk_at "d"
  refine dc_all ?_
  rw [show ((List.range r.length).map fun _ => true).all id = true by simp]
  repeat walk_at "d"
  refine dx_for (di_tup ?_)
  repeat walk_at "d"
  have szf : ∀ n, n ≤ r.length → SzR (1 + n * 311) ((r.take n).foldl (· + ·) 0) := by
    intro n
    induction n with
    | zero => intro _; rw [List.take_zero]; exact ⟨by decide, by decide⟩
    | succ n ih =>
      intro hn
      have hg : r[n]? = some (r[n]'(by omega)) := List.getElem?_eq_getElem (by omega)
      rw [foldl_take_succ hg]
      have := (ih (by omega)).add (hsz _ (List.getElem_mem (by omega : n < r.length)))
      exact this.up (by omega)
  refine ⟨_, rfl, fun n d => ∃ x, d = ⟨[some (.tup (r.map dq)), some (.int r.length), x, some (dq ((r.take n).foldl (· + ·) 0)), none, none, none], own0⟩, ⟨_, by rw [List.take_zero]; rfl⟩, fun _ _ _ _ => trivial, ?_, ?_⟩
  · rintro n x d hx ⟨u, rfl⟩
    obtain ⟨s, hs, rfl⟩ := map_get hx
    have hn : n < r.length := (List.getElem?_eq_some_iff.mp hs).1
    repeat walk_at "d"
    refine ⟨_, s, rfl, (szf n (by omega)).sz (by omega), (hsz s (List.mem_of_getElem? hs)).sz (by decide), ?_⟩
    repeat walk_at "d"
    exact ⟨_, by rw [foldl_take_succ hs]⟩
  · rintro d ⟨u, rfl⟩
    rw [List.length_map, List.take_length, h1]
    repeat walk_at "d"
    refine de_lcM (by walk_at "w") (by walk_at "w") ?_
    refine di_zipT ?_
    repeat walk_at "d"
    refine de_slT ?_
    repeat walk_at "d"
    refine do_some ?_
    repeat walk_at "d"
    refine do_no ?_
    have s1 : HT.sIx (r.map dq).length 0 (some 1) = 1 := by
      rw [show (1 : Int) = ((1 : Nat) : Int) from rfl, HT.sIx_nat, List.length_map]; omega
    have s2 : HT.sIx (r.map dq).length (r.map dq).length none = r.length := by rw [HT.sIx_none, List.length_map]
    refine ⟨_, rfl, by rw [s1]; omega, ?_⟩
    have ecut : DL.cutD (r.map dq) (some 1) none = (r.drop 1).map dq := by
      unfold DL.cutD
      rw [s1, s2, ← List.map_drop]
      rw [List.take_of_length_le (by rw [List.length_map, List.length_drop]; exact Nat.le_refl _)]
    rw [ecut]
    repeat walk_at "d"
    refine ⟨_, _, rfl, by rw [zipD_len, List.length_map]; omega, fun _ _ => trivial, fun _ => .bl true, ?_, ?_⟩
    · intro b i x hx
      obtain ⟨y, z, hy, hz, rfl⟩ := zipD_get hx
      obtain ⟨y, hy', rfl⟩ := map_get hy
      obtain ⟨z, hz', rfl⟩ := map_get hz
      rw [List.getElem?_drop, Nat.add_comm] at hz'
      have hi : i + 1 < r.length := (List.getElem?_eq_some_iff.mp hz').1
      have f := hfl i hi
      rw [List.getD_eq_getElem?_getD, hz', List.getD_eq_getElem?_getD, hy'] at f
      have f : z ≤ y := f
      dsimp only [wipeD, List.map, List.set]
      repeat walk_at "d"
      refine ⟨y, z, rfl, (hsz y (List.mem_of_getElem? hy')).sz (by decide), (hsz z (List.mem_of_getElem? hz')).sz (by decide), ?_⟩
      rw [decide_eq_false (Rat.not_lt.mpr f)]
      repeat walk_at "d"
      exact ⟨rfl, rfl⟩
    · generalize (zipD (r.map dq) ((r.drop 1).map dq)).length = L
      rw [show (List.range L).map (fun _ => Dt.bl true) = ((List.range L).map fun _ => true).map Dt.bl by rw [List.map_map]; rfl]
      repeat walk_at "d"
      refine dc_all ?_
      rw [show ((List.range L).map fun _ => true).all id = true by simp]
      repeat walk_at "d"
      refine dr_xT (xs := r.map dq) (y := dq (r.getD (r.length - 1) 0)) (by rw [atI_last (n := r.length - 1) (by rw [List.length_map]; omega), List.getElem_map, List.getD_eq_getElem?_getD, List.getElem?_eq_getElem (by omega)]; rfl) ?_
      unfold dq
      repeat walk_at "d"
      refine iteT' (decide_eq_true (num_nn.mpr hla)) ?_
      repeat walk_at "d"
      refine dr_eqP ?_
      rw [decide_eq_true (show (1 : Rat).num = 1 ∧ ((1 : Rat).den : Int) = 1 from ⟨rfl, rfl⟩)]
      exact q
end
end Cab
/-! W5b -/
set_option Elab.async false
set_option linter.all false
set_option maxRecDepth 100000
set_option maxHeartbeats 4000000
namespace Cab
open PySem PySem.Spec PyProof.Rows L2 DL
local macro_rules | `(tactic| walk_at "d") => `(tactic| first
  | with_reducible refine dx_seq ?_ | with_reducible refine dx_ret ?_ | with_reducible refine dx_asg ?_ | ((with_reducible refine dg_name ?_); dsimp only [List.set])
  | with_reducible refine de_op ?_ | ((with_reducible refine' de_var ?h1 ?_); (case h1 => exact rfl)) | with_reducible refine de_int ?_ | with_reducible refine da_cons ?_ | with_reducible refine da_nil ?_
  | ((with_reducible refine' dr_xT ?h1 ?_); (case h1 => exact rfl)) | ((with_reducible refine' dr_xL ?h1 ?_); (case h1 => exact rfl)) | with_reducible refine dr_I0 ?_ | with_reducible refine dr_I0b ?_ | with_reducible refine de_callP ?_ | with_reducible refine de_callA ?_
  | with_reducible refine de_cb ?_ | with_reducible refine de_un ?_ | with_reducible refine du_I ?_ | with_reducible refine de_bl ?_ | with_reducible refine de_non ?_ | with_reducible refine de_str ?_ | with_reducible refine de_ty ?_
  | with_reducible refine dr_eqI ?_ | with_reducible refine dr_neI ?_ | with_reducible refine dr_eqS ?_ | with_reducible refine dr_isN ?_ | with_reducible refine dr_notN ?_
  | with_reducible refine dt_and ?_ | with_reducible refine dt_or ?_ | with_reducible refine dt_not ?_ | with_reducible refine de_if ?_ | with_reducible refine de_andV ?_ | with_reducible refine de_orV ?_ | with_reducible refine de_notV ?_
  | ((with_reducible refine dt_test ?_)) | ((with_reducible refine dt_B ?_))
  | with_reducible refine dx_par' ?_ | with_reducible refine dx_par3' ?_ | with_reducible refine ex_bl ?_ | with_reducible refine ex_int ?_ | with_reducible refine isi_int ?_ | with_reducible refine isi_intB ?_ | with_reducible refine isi_tup ?_ | with_reducible refine isi_tupS ?_ | with_reducible refine isi_str ?_ | with_reducible refine de_chain ?_ | with_reducible refine dt_chain ?_ | with_reducible refine iteT ?_ | with_reducible refine iteF ?_ | with_reducible refine dx_if ?_ | with_reducible refine dx_drop ?_ | with_reducible refine dx_cont ?_ | with_reducible refine dx_next ?_
  | with_reducible refine dc_abs ?_ | with_reducible refine dc_lenT ?_ | with_reducible refine dc_lenL ?_ | with_reducible refine dc_int ?_ | with_reducible refine dc_max2 ?_ | with_reducible refine dc_min2 ?_ | with_reducible refine dc_tupL ?_
  | with_reducible refine de_fldF ?_ ?_ ?_ | with_reducible refine de_tup ?_ | ((with_reducible refine len_ok ?h1 ?_); (case h1 => exact rfl))
  | ((with_reducible refine iteT' ?h1 ?_); (case h1 => rfl)) | ((with_reducible refine iteF' ?h1 ?_); (case h1 => rfl))
  | with_reducible refine ex_int2 ?_ | ((with_reducible refine' dg_tup ?h1 ?_); (case h1 => rfl)) | with_reducible refine dgs_cons ?_ | with_reducible refine dgs_nil ?_ | with_reducible refine dc_lenX ?_ | with_reducible refine dr_inX ?_
  | dsimp only [List.set])
/-- a comprehension's targets -/
local macro_rules | `(tactic| walk_at "w") => `(tactic| repeat first
  | exact wp_name (by simp) | exact mo_name | exact wps_nil | exact mos_nil
  | refine wp_tup ?_ | refine wps_cons ?_ ?_ ?_ ?_ | refine mo_tup ?_ | refine mos_cons ?_ ?_)
/-- ends that are told by a value: a bool, a pair -/
local macro_rules | `(tactic| walk_at "e") => `(tactic| first
  | walk_at "d"
  | ((with_reducible refine Exists.intro _ (And.intro rfl ?_))))
section
variable {P : Program} {w : World} {K : PySem.W.Frag} {mg : Str → Option Value} {base : Heap}
/-! ### tables, customs -/
theorem TblOk.rows {t : List (List Rat)} (h : TblOk t) : t.length = 4 ∧ ∀ (i : Nat) (r : List Rat), t[i]? = some r → RowOk r ∧ r.length = i + 1 := by
  obtain ⟨a, b1, b2, c1, c2, c3, d1, d2, d3, d4, rfl, ha, hb, hc, hd⟩ := h
  refine ⟨rfl, fun i r hr => ?_⟩
  match i, hr with
  | 0, hr =>
    have e : r = [a] := by simpa using hr.symm
    subst e
    subst ha
    exact ⟨⟨by simp, by simp, fun i hi => by simp at hi, by decide +kernel, by decide +kernel⟩, rfl⟩
  | 1, hr =>
    have e : r = [b1, b2] := by simpa using hr.symm
    subst e
    refine ⟨⟨by simp, by simp, fun i hi => ?_, by simpa using hb.1, by simp only [List.foldl_cons, List.foldl_nil, Rat.zero_add]; exact hb.2.2⟩, rfl⟩
    have : i = 0 := by simp at hi; omega
    subst this; simpa using hb.2.1
  | 2, hr =>
    have e : r = [c1, c2, c3] := by simpa using hr.symm
    subst e
    refine ⟨⟨by simp, by simp, fun i hi => ?_, by simpa using hc.1, by simp only [List.foldl_cons, List.foldl_nil, Rat.zero_add]; exact hc.2.2.2⟩, rfl⟩
    have : i = 0 ∨ i = 1 := by simp at hi; omega
    rcases this with e | e <;> subst e
    · simpa using hc.2.2.1
    · simpa using hc.2.1
  | 3, hr =>
    have e : r = [d1, d2, d3, d4] := by simpa using hr.symm
    subst e
    refine ⟨⟨by simp, by simp, fun i hi => ?_, by simpa using hd.1, by simp only [List.foldl_cons, List.foldl_nil, Rat.zero_add]; exact hd.2.2.2.2⟩, rfl⟩
    have : i = 0 ∨ i = 1 ∨ i = 2 := by simp at hi; omega
    rcases this with e | e | e <;> subst e
    · simpa using hd.2.2.2.1
    · simpa using hd.2.2.1
    · simpa using hd.2.1
  | i + 4, hr => simp at hr
def drow (r : List Rat) : Dt := .tup (r.map dq)
theorem dtab_eq (t : List (List Rat)) : dtab t = .tup (t.map drow) := rfl
def pr_check_table : PrP := fun ds Q => ∃ t : List (List Rat), ds = [dtab t] ∧ TblOk t ∧ SzT 310 t ∧ Q .non
theorem len_check_table {ds Q} (p : pr_check_table ds Q) : ds.length = 1 := by obtain ⟨_, rfl, _⟩ := p; rfl
theorem sc_check_table : FnScope ["value", "index", "row"] ["value"] (defScope (topS 63)) := ⟨rfl, rfl, rfl, by decide +kernel, rfl, by decide +kernel, by decide +kernel⟩
theorem ok_check_table (T : Txt K mg base) : Cal P w K mg base 5 "check_table" ["value"] (spP K pr_check_table) := by
  refine cal_pure (T.fn "check_table" 63 (by decide +kernel)) sc_check_table (fun _ _ _ _ _ _ us hl => match us, hl with | [_], _ => rfl) (fun ds Q p => len_check_table p) fun cdv A outer s H f E hr =>
    ⟨_, (pss_cons (ps_if (PW.pt (pw_or (pt_not (pt_val (pe_cbK (r := rIsi K) call_isi (by decide +kernel) (T.free "isinstance" (by decide +kernel)) (by rfl) (pa_cons (pv 0) (pa_cons (pe_gty (n := "tuple") (T.free "tuple" (by decide +kernel)) (by decide +kernel) (by rfl)) pa_nil))))) (pw_or1 (pt_cmpR op_ne (pe_cbK (r := DL.rLen K) call_len' boot_len (T.free "len" (by decide +kernel)) (by rfl) (pa_cons (pv 0) pa_nil)) (pe_gint (T.gint "MOST_ABOARD" 4 (by decide +kernel)) (by rfl)) (nomark _))))) (pss_one ps_never) pss_nil)
      (pss_one (ps_for PassesOwn.never rfl (pi_enumTK (K := K) rfl (by rfl) (T.free "enumerate" (by decide +kernel)) (pa_cons (pv 0) pa_nil)) (pg_tupK (K := K) (n := 2) rfl rfl (pgs_cons (pg_name (i := 1) sc_check_table.nd rfl (.inl rfl)) (pgs_cons (pg_name (i := 2) sc_check_table.nd rfl (.inl rfl)) pgs_nil)))
      (pss_one (ps_if (pt_not (pt_val (pe_cal (ok_is_row (K := K) T) (hr.mono (by decide)) (by rfl) (pa_cons (pv 2) (pa_cons (pe_op op_add (pv 1) pe_int) pa_nil))))) (pss_one ps_never) pss_nil))))), fun b ds Q p => ?_⟩
  obtain ⟨t, rfl, ht, hsz, q⟩ := p
  obtain ⟨hl, hr⟩ := ht.rows
  simp only [startD, List.map_nil, dtab_eq]
  repeat walk_at "d"
  rw [List.length_map, hl]
  refine iteF' (by rfl) ?_
  repeat walk_at "d"
  refine dx_for (di_enumT ?_)
  repeat walk_at "d"
  refine ⟨_, rfl, fun n d => ∃ x y, d = ⟨[some (.tup (t.map drow)), x, y], own0⟩, ⟨_, _, rfl⟩, fun _ _ _ _ => trivial, ?_, ?_⟩
  · rintro n x d hx ⟨u, v, rfl⟩
    obtain ⟨y, hy, rfl⟩ := enumD_get hx
    obtain ⟨r, hr', rfl⟩ := map_get hy
    obtain ⟨h1, h2⟩ := hr n r hr'
    repeat walk_at "d"
    refine ⟨r, by rw [h2]; simp only [drow]; congr 3, h1, hsz r (List.mem_of_getElem? hr'), ?_⟩
    repeat walk_at "d"
    exact ⟨_, _, rfl⟩
  · rintro d ⟨u, v, rfl⟩
    exact q
structure Cl where
  c : Int
  r : Int
  oc : Int
  orr : Int
  f : Int
  g : Int
def dcl (k : Cl) : Dt := .tup [.int k.c, .int k.r, .int k.oc, .int k.orr, .int k.f, .int k.g]
def ClOk (k : Cl) : Prop := (1 ≤ k.c ∧ k.c ≤ 4) ∧ (1 ≤ k.r ∧ k.r ≤ k.c) ∧ (1 ≤ k.oc ∧ k.oc ≤ 4) ∧ (1 ≤ k.orr ∧ k.orr ≤ k.oc) ∧ (0 ≤ k.f ∧ k.f ≤ 100) ∧ (1 ≤ k.g ∧ k.g ≤ 100)
def lastN (c : Nat) (r : Nat) : List Cl := (List.range r).flatMap fun r => [⟨((c : Nat) : Int) + 2, ((r : Nat) : Int) + 1, ((c : Nat) : Int) + 1, ((r : Nat) : Int) + 1, 1, 1⟩, ⟨((c : Nat) : Int) + 2, ((r : Nat) : Int) + 2, ((c : Nat) : Int) + 1, ((r : Nat) : Int) + 1, 1, 1⟩]
def lastC (n : Nat) : List Cl := (List.range n).flatMap fun c => lastN c (c + 1)
theorem flat_succ {α : Type} (f : Nat → List α) (n : Nat) : (List.range (n + 1)).flatMap f = (List.range n).flatMap f ++ f n := by
  rw [List.range_succ, List.flatMap_append]
  simp only [List.flatMap_cons, List.flatMap_nil, List.append_nil]
def pr_lasting_clauses : PrP := fun ds Q => ds = [] ∧ Q (.tup ((lastC 3).map dcl))
theorem len_lasting_clauses {ds Q} (p : pr_lasting_clauses ds Q) : ds.length = 0 := by obtain ⟨rfl, _⟩ := p; rfl
theorem sc_lasting_clauses : FnScope ["found", "count", "rank"] [] (defScope (topS 64)) := ⟨rfl, rfl, rfl, by decide +kernel, rfl, by decide +kernel, by decide +kernel⟩
theorem ok_lasting_clauses (T : Txt K mg base) : Cal P w K mg base 1 "lasting_clauses" [] (spP K pr_lasting_clauses) := by
  refine cal_pure (T.fn "lasting_clauses" 64 (by decide +kernel)) sc_lasting_clauses (fun _ _ _ _ _ _ us hl => match us, hl with | [], _ => rfl) (fun ds Q p => len_lasting_clauses p) fun cdv A outer s H f E hr =>
    ⟨_, (pss_cons (ps_set (i := 0) sc_lasting_clauses.nd rfl (.inl rfl) (pe_lst pa_nil))
      (pss_cons (ps_for PassesOwn.never rfl (pi_range2 (by rfl) (T.free "range" (by decide +kernel)) (pa_cons pe_int (pa_cons (pe_gint (T.gint "MOST_ABOARD" 4 (by decide +kernel)) (by rfl)) pa_nil))) (pg_name (i := 1) sc_lasting_clauses.nd rfl (.inl rfl))
      (pss_one (ps_for PassesOwn.never rfl (pi_range2 (by rfl) (T.free "range" (by decide +kernel)) (pa_cons pe_int (pa_cons (pe_op op_add (pv 1) pe_int) pa_nil))) (pg_name (i := 2) sc_lasting_clauses.nd rfl (.inl rfl))
      (pss_cons (ps_expr (pe_appK (K := K) rfl (pv 0) (pe_tup (pa_cons (pe_op op_add (pv 1) pe_int) (pa_cons (pv 2) (pa_cons (pv 1) (pa_cons (pv 2) (pa_cons pe_int (pa_cons pe_int pa_nil)))))))))
      (pss_one (ps_expr (pe_appK (K := K) rfl (pv 0) (pe_tup (pa_cons (pe_op op_add (pv 1) pe_int) (pa_cons (pe_op op_add (pv 2) pe_int) (pa_cons (pv 1) (pa_cons (pv 2) (pa_cons pe_int (pa_cons pe_int pa_nil))))))))))))))
      (pss_one (ps_ret (pe_ctK (r := DL.rTupleOf K) call_tuple_of' (by decide +kernel) (T.free "tuple" (by decide +kernel)) (by rfl) (pa_cons (pv 0) pa_nil)))))), fun b ds Q p => ?_⟩
  obtain ⟨rfl, q⟩ := p
  simp only [startD, List.map_nil]
  refine dx_seq ?_
  refine dx_asg ?_
  refine de_lstO ?_
  repeat walk_at "d"
  intro a ha
  repeat walk_at "d"
  refine dx_for (di_rng2 ?_)
  repeat walk_at "d"
  refine ⟨1, 4, rfl, by omega, fun n d => ∃ x y ow, d = ⟨[some (.ptr a), x, y], ow⟩ ∧ ow a = some (.lst ((lastC n).map dcl)) ∧ n ≤ 3, ⟨_, _, _, rfl, Own.put_same, by omega⟩, fun _ _ _ _ => trivial, ?_, ?_⟩
  · rintro n x d hx ⟨u, v, ow, rfl, ho, _⟩
    obtain ⟨rfl, hn⟩ := rangeD_get hx
    have hn : n < 3 := hn
    repeat walk_at "d"
    refine dx_for (di_rng2 ?_)
    repeat walk_at "d"
    refine ⟨1, 1 + (n : Int) + 1, rfl, by omega, fun m d => ∃ y ow, d = ⟨[some (.ptr a), some (.int (1 + (n : Int))), y], ow⟩ ∧ ow a = some (.lst ((lastC n ++ lastN n m).map dcl)), ⟨_, ow, rfl, by rw [show lastN n 0 = [] from rfl, List.append_nil]; exact ho⟩, fun _ _ _ _ => trivial, ?_, ?_⟩
    · rintro m x d hx ⟨y, ow, rfl, ho⟩
      obtain ⟨rfl, hm⟩ := rangeD_get hx
      have hm : m < n + 1 := by omega
      have hlen : ((lastC n ++ lastN n m).map dcl).length < 50000 := by
        rw [List.length_map, List.length_append]
        have h1 : (lastC n).length ≤ 12 := by
          have : n = 0 ∨ n = 1 ∨ n = 2 := by omega
          rcases this with e | e | e <;> (subst e; decide)
        have h2 : (lastN n m).length ≤ 8 := by
          have : m = 0 ∨ m = 1 ∨ m = 2 := by omega
          rcases this with e | e | e <;> (subst e; exact Nat.le_of_ble_eq_true rfl)
        omega
      repeat walk_at "d"
      refine de_append ?_
      repeat walk_at "d"
      refine ⟨a, _, rfl, ho, ?_⟩
      repeat walk_at "d"
      refine ⟨_, ho, by omega, ?_⟩
      repeat walk_at "d"
      refine de_append ?_
      repeat walk_at "d"
      refine ⟨a, _, rfl, Own.put_same, ?_⟩
      repeat walk_at "d"
      refine ⟨_, Own.put_same, by rw [List.length_append]; simp only [List.length_cons, List.length_nil]; omega, ?_⟩
      refine ⟨_, _, rfl, ?_⟩
      rw [Own.put_same, show lastN n (m + 1) = lastN n m ++ [⟨(n : Int) + 2, (m : Int) + 1, (n : Int) + 1, (m : Int) + 1, 1, 1⟩, ⟨(n : Int) + 2, (m : Int) + 2, (n : Int) + 1, (m : Int) + 1, 1, 1⟩] from flat_succ _ m, ← List.append_assoc, List.map_append, List.append_assoc]
      simp only [List.map_cons, List.map_nil, dcl, List.cons_append, List.nil_append]
      rw [show (1 : Int) + (n : Int) + 1 = (n : Int) + 2 by omega, show (1 : Int) + (n : Int) = (n : Int) + 1 by omega, show (1 : Int) + (m : Int) + 1 = (m : Int) + 2 by omega, show (1 : Int) + (m : Int) = (m : Int) + 1 by omega]
      simp only [List.map_append]
      rfl
    · rintro d ⟨y, ow, rfl, ho⟩
      rw [rangeD_len, show (1 + (n : Int) + 1 - 1).toNat = n + 1 by omega] at ho
      refine ⟨_, _, ow, rfl, ?_, by omega⟩
      rw [show lastC (n + 1) = lastC n ++ lastN n (n + 1) from flat_succ _ n]
      exact ho
  · rintro d ⟨u, v, ow, rfl, ho, _⟩
    rw [rangeD_len] at ho
    repeat walk_at "d"
    refine dc_tupO ho ?_
    exact q
def halvN (c : Nat) (r : Nat) : List Cl := (List.range r).map fun r => ⟨((c : Nat) : Int) + 2, ((r : Nat) : Int) + 1, ((c : Nat) : Int) + 2, ((r : Nat) : Int) + 2, 2, 1⟩
def halvC (n : Nat) : List Cl := (List.range n).flatMap fun c => halvN c (c + 1)
def pr_halved_clauses : PrP := fun ds Q => ds = [] ∧ Q (.tup ((halvC 3).map dcl))
theorem len_halved_clauses {ds Q} (p : pr_halved_clauses ds Q) : ds.length = 0 := by obtain ⟨rfl, _⟩ := p; rfl
theorem sc_halved_clauses : FnScope ["found", "count", "rank"] [] (defScope (topS 65)) := ⟨rfl, rfl, rfl, by decide +kernel, rfl, by decide +kernel, by decide +kernel⟩
theorem ok_halved_clauses (T : Txt K mg base) : Cal P w K mg base 1 "halved_clauses" [] (spP K pr_halved_clauses) := by
  refine cal_pure (T.fn "halved_clauses" 65 (by decide +kernel)) sc_halved_clauses (fun _ _ _ _ _ _ us hl => match us, hl with | [], _ => rfl) (fun ds Q p => len_halved_clauses p) fun cdv A outer s H f E hr =>
    ⟨_, (pss_cons (ps_set (i := 0) sc_halved_clauses.nd rfl (.inl rfl) (pe_lst pa_nil))
      (pss_cons (ps_for PassesOwn.never rfl (pi_range2 (by rfl) (T.free "range" (by decide +kernel)) (pa_cons pe_int (pa_cons (pe_op op_add (pe_gint (T.gint "MOST_ABOARD" 4 (by decide +kernel)) (by rfl)) pe_int) pa_nil))) (pg_name (i := 1) sc_halved_clauses.nd rfl (.inr rfl))
      (pss_one (ps_aug (i := 0) sc_halved_clauses.nd rfl (.inl rfl) (pe_lc (own := [("rank", 2)]) (g := (gName 2)) (tt := tYes) rfl sc_halved_clauses.nd (pi_range2 (by rfl) (T.free "range" (by decide +kernel)) (pa_cons pe_int (pa_cons (pv 1) pa_nil))) (blkOk_by (own := [("rank", 2)]) (N := ["found", "count", "rank"]) (sc := (defScope (topS 65))) (by decide +kernel)) (fun _ _ _ _ _ => (pg_name (i := 2) sc_halved_clauses.nd rfl (Or.inl rfl))) (fun _ _ _ _ _ => pts_nil) (fun _ _ _ _ _ => (pe_tup (pa_cons (pv 1) (pa_cons (pv 2) (pa_cons (pv 1) (pa_cons (pe_op op_add (pv 2) pe_int) (pa_cons pe_int (pa_cons pe_int pa_nil))))))))) iop_ext)))
      (pss_one (ps_ret (pe_ctK (r := DL.rTupleOf K) call_tuple_of' (by decide +kernel) (T.free "tuple" (by decide +kernel)) (by rfl) (pa_cons (pv 0) pa_nil)))))), fun b ds Q p => ?_⟩
  obtain ⟨rfl, q⟩ := p
  simp only [startD, List.map_nil]
  refine dx_seq ?_
  refine dx_asg ?_
  refine de_lstO ?_
  repeat walk_at "d"
  intro a ha
  repeat walk_at "d"
  refine dx_for (di_rng2 ?_)
  repeat walk_at "d"
  refine ⟨2, 5, rfl, by omega, fun n d => ∃ x y ow, d = ⟨[some (.ptr a), x, y], ow⟩ ∧ ow a = some (.lst ((halvC n).map dcl)) ∧ n ≤ 3, ⟨_, _, _, rfl, Own.put_same, by omega⟩, fun _ _ _ _ => trivial, ?_, ?_⟩
  · rintro n x d hx ⟨u, v, ow, rfl, ho, _⟩
    obtain ⟨rfl, hn⟩ := rangeD_get hx
    have hn : n < 3 := hn
    repeat walk_at "d"
    refine dx_augE rfl ?_
    refine de_lcMO (by walk_at "w") (by walk_at "w") ?_
    refine di_rng2 ?_
    repeat walk_at "d"
    have hr : (2 + (n : Int) - 1).toNat = n + 1 := by omega
    refine ⟨1, 2 + (n : Int), rfl, by omega, by rw [rangeD_len]; omega, fun _ _ => trivial, fun m => dcl ⟨(n : Int) + 2, (m : Int) + 1, (n : Int) + 2, (m : Int) + 2, 2, 1⟩, ?_, ?_⟩
    · intro b m y hy
      obtain ⟨rfl, hm⟩ := rangeD_get hy
      dsimp only [wipeD, List.map, List.set]
      repeat walk_at "d"
      refine ⟨rfl, ?_⟩
      simp only [dcl]
      rw [show (2 : Int) + (n : Int) = (n : Int) + 2 by omega, show (1 : Int) + (m : Int) + 1 = (m : Int) + 2 by omega, show (1 : Int) + (m : Int) = (m : Int) + 1 by omega]
    · intro c hc
      have hc : ow c = none := hc
      rw [rangeD_len, hr]
      have hlen : (halvC n).length ≤ 10 := by
        have : n = 0 ∨ n = 1 ∨ n = 2 := by omega
        rcases this with e | e | e <;> (subst e; decide)
      refine ⟨c, _, _, rfl, (Own.put_ne (fun q => by rw [← q, ho] at hc; cases hc)).trans ho, Own.put_same, by simp; omega, ?_⟩
      refine ⟨_, _, _, rfl, ?_, by omega⟩
      rw [Own.put_same, show halvC (n + 1) = halvC n ++ halvN n (n + 1) from flat_succ _ n, List.map_append]
      unfold halvN
      rw [List.map_map]; rfl
  · rintro d ⟨u, v, ow, rfl, ho, _⟩
    rw [rangeD_len] at ho
    repeat walk_at "d"
    refine dc_tupO ho ?_
    exact q
end
end Cab
/-! W5c -/
set_option Elab.async false
set_option linter.all false
set_option maxRecDepth 100000
set_option maxHeartbeats 4000000
namespace Cab
open PySem PySem.Spec PyProof.Rows L2 DL
local macro_rules | `(tactic| walk_at "d") => `(tactic| first
  | with_reducible refine dx_seq ?_ | with_reducible refine dx_ret ?_ | with_reducible refine dx_asg ?_ | ((with_reducible refine dg_name ?_); dsimp only [List.set])
  | with_reducible refine de_op ?_ | ((with_reducible refine' de_var ?h1 ?_); (case h1 => exact rfl)) | with_reducible refine de_int ?_ | with_reducible refine da_cons ?_ | with_reducible refine da_nil ?_
  | ((with_reducible refine' dr_xT ?h1 ?_); (case h1 => exact rfl)) | ((with_reducible refine' dr_xL ?h1 ?_); (case h1 => exact rfl)) | with_reducible refine dr_I0 ?_ | with_reducible refine dr_I0b ?_ | with_reducible refine de_callP ?_ | with_reducible refine de_callA ?_
  | with_reducible refine de_cb ?_ | with_reducible refine de_un ?_ | with_reducible refine du_I ?_ | with_reducible refine de_bl ?_ | with_reducible refine de_non ?_ | with_reducible refine de_str ?_ | with_reducible refine de_ty ?_
  | with_reducible refine dr_eqI ?_ | with_reducible refine dr_neI ?_ | with_reducible refine dr_eqS ?_ | with_reducible refine dr_isN ?_ | with_reducible refine dr_notN ?_
  | with_reducible refine dt_and ?_ | with_reducible refine dt_or ?_ | with_reducible refine dt_not ?_ | with_reducible refine de_if ?_ | with_reducible refine de_andV ?_ | with_reducible refine de_orV ?_ | with_reducible refine de_notV ?_
  | ((with_reducible refine dt_test ?_)) | ((with_reducible refine dt_B ?_))
  | with_reducible refine dx_par' ?_ | with_reducible refine dx_par3' ?_ | with_reducible refine ex_bl ?_ | with_reducible refine ex_int ?_ | with_reducible refine isi_int ?_ | with_reducible refine isi_intB ?_ | with_reducible refine isi_tup ?_ | with_reducible refine isi_tupS ?_ | with_reducible refine isi_str ?_ | with_reducible refine de_chain ?_ | with_reducible refine dt_chain ?_ | with_reducible refine iteT ?_ | with_reducible refine iteF ?_ | with_reducible refine dx_if ?_ | with_reducible refine dx_drop ?_ | with_reducible refine dx_cont ?_ | with_reducible refine dx_next ?_
  | with_reducible refine dc_abs ?_ | with_reducible refine dc_lenT ?_ | with_reducible refine dc_lenL ?_ | with_reducible refine dc_int ?_ | with_reducible refine dc_max2 ?_ | with_reducible refine dc_min2 ?_ | with_reducible refine dc_tupL ?_
  | with_reducible refine de_fldF ?_ ?_ ?_ | with_reducible refine de_tup ?_ | ((with_reducible refine len_ok ?h1 ?_); (case h1 => exact rfl))
  | ((with_reducible refine iteT' ?h1 ?_); (case h1 => rfl)) | ((with_reducible refine iteF' ?h1 ?_); (case h1 => rfl))
  | with_reducible refine ex_int2 ?_ | ((with_reducible refine' dg_tup ?h1 ?_); (case h1 => rfl)) | with_reducible refine dgs_cons ?_ | with_reducible refine dgs_nil ?_ | with_reducible refine dc_lenX ?_ | with_reducible refine dr_inX ?_
  | dsimp only [List.set])
/-- a comprehension's targets -/
local macro_rules | `(tactic| walk_at "w") => `(tactic| repeat first
  | exact wp_name (by simp) | exact mo_name | exact wps_nil | exact mos_nil
  | refine wp_tup ?_ | refine wps_cons ?_ ?_ ?_ ?_ | refine mo_tup ?_ | refine mos_cons ?_ ?_)
/-- ends that are told by a value: a bool, a pair -/
local macro_rules | `(tactic| walk_at "e") => `(tactic| first
  | walk_at "d"
  | ((with_reducible refine Exists.intro _ (And.intro rfl ?_))))
section
variable {P : Program} {w : World} {K : PySem.W.Frag} {mg : Str → Option Value} {base : Heap}
/-! ### customs -/
theorem cut2 {α : Type} (a b c d e f : Dt) : DL.cutD [a, b, c, d, e, f] none (some 2) = [a, b] ∧ DL.cutD [a, b, c, d, e, f] (some 2) (some 4) = [c, d] := ⟨rfl, rfl⟩
def pr_is_clause : PrP := fun ds Q => ∃ k : Cl, ds = [dcl k] ∧ ClOk k ∧ Q (.bl true)
theorem len_is_clause {ds Q} (p : pr_is_clause ds Q) : ds.length = 1 := by obtain ⟨_, rfl, _⟩ := p; rfl
theorem sc_is_clause : FnScope ["value", "count", "rank"] ["value"] (defScope (topS 67)) := ⟨rfl, rfl, rfl, by decide +kernel, rfl, by decide +kernel, by decide +kernel⟩
theorem ok_is_clause (T : Txt K mg base) : Cal P w K mg base 3 "is_clause" ["value"] (spP K pr_is_clause) := by
  refine cal_pure (T.fn "is_clause" 67 (by decide +kernel)) sc_is_clause (fun _ _ _ _ _ _ us hl => match us, hl with | [_], _ => rfl) (fun ds Q p => len_is_clause p) fun cdv A outer s H f E hr =>
    ⟨_, (pss_cons (ps_if (PW.pt (pw_or (pt_not (pt_val (pe_cbK (r := rIsi K) call_isi (by decide +kernel) (T.free "isinstance" (by decide +kernel)) (by rfl) (pa_cons (pv 0) (pa_cons (pe_gty (n := "tuple") (T.free "tuple" (by decide +kernel)) (by decide +kernel) (by rfl)) pa_nil))))) (pw_or1 (pt_cmpR op_ne (pe_cbK (r := DL.rLen K) call_len' boot_len (T.free "len" (by decide +kernel)) (by rfl) (pa_cons (pv 0) pa_nil)) pe_int (nomark _))))) (pss_one (ps_ret pe_bl)) pss_nil)
      (pss_cons (ps_for PassesOwn.never rfl (pi_tupK (K := K) rfl (pe_tup (pa_cons (pe_slice (r := rSlT K) sl_tup (pv 0) po_none (po_some pe_int)) (pa_cons (pe_slice (r := rSlT K) sl_tup (pv 0) (po_some pe_int) (po_some pe_int)) pa_nil)))) (pg_tupK (K := K) (n := 2) rfl rfl (pgs_cons (pg_name (i := 1) sc_is_clause.nd rfl (.inl rfl)) (pgs_cons (pg_name (i := 2) sc_is_clause.nd rfl (.inl rfl)) pgs_nil)))
      (pss_one (ps_if (PW.pt (pw_or (pt_not (pt_val (pe_cal (ok_is_between (K := K) T) (hr.mono (by decide)) (by rfl) (pa_cons (pv 1) (pa_cons pe_int (pa_cons (pe_gint (T.gint "MOST_ABOARD" 4 (by decide +kernel)) (by rfl)) pa_nil)))))) (pw_or1 (pt_not (pt_val (pe_cal (ok_is_between (K := K) T) (hr.mono (by decide)) (by rfl) (pa_cons (pv 2) (pa_cons pe_int (pa_cons (pv 1) pa_nil))))))))) (pss_one (ps_ret pe_bl)) pss_nil)))
      (pss_one (ps_ret (pe_and (pe_cal (ok_is_between (K := K) T) (hr.mono (by decide)) (by rfl) (pa_cons (pe_ixK (K := K) rfl (pv 0) pe_int) (pa_cons pe_int (pa_cons (pe_gint (T.gint "MOST_FACTOR" 100 (by decide +kernel)) (by rfl)) pa_nil)))) (pe_one (pe_cal (ok_is_between (K := K) T) (hr.mono (by decide)) (by rfl) (pa_cons (pe_ixK (K := K) rfl (pv 0) pe_int) (pa_cons pe_int (pa_cons (pe_gint (T.gint "MOST_FACTOR" 100 (by decide +kernel)) (by rfl)) pa_nil)))))))))), fun b ds Q p => ?_⟩
  obtain ⟨k, rfl, ⟨h1, h2, h3, h4, h5, h6⟩, q⟩ := p
  simp only [startD, List.map_nil, dcl]
  repeat walk_at "d"
  refine dx_for (di_tup ?_)
  refine de_tup ?_
  refine da_cons ?_
  refine de_slT ?_
  repeat walk_at "d"
  refine do_no ?_
  refine do_some ?_
  repeat walk_at "d"
  refine ⟨_, rfl, (show ¬ (HT.sIx 6 0 none = 0 ∧ HT.sIx 6 6 (some 2) = 6) by decide), ?_⟩
  rw [(cut2 (α := Nat) _ _ _ _ _ _).1]
  refine da_cons ?_
  refine de_slT ?_
  repeat walk_at "d"
  refine do_some ?_
  repeat walk_at "d"
  refine do_some ?_
  repeat walk_at "d"
  refine ⟨_, rfl, (show ¬ (HT.sIx 6 0 (some 2) = 0 ∧ HT.sIx 6 6 (some 4) = 6) by decide), ?_⟩
  rw [(cut2 (α := Nat) _ _ _ _ _ _).2]
  repeat walk_at "d"
  refine ⟨_, rfl, fun n d => ∃ x y, d = ⟨[some (.tup [.int k.c, .int k.r, .int k.oc, .int k.orr, .int k.f, .int k.g]), x, y], own0⟩, ⟨_, _, rfl⟩, fun _ _ _ _ => trivial, ?_, ?_⟩
  · rintro n x d hx ⟨u, v, rfl⟩
    have hx' : x = .tup [.int k.c, .int k.r] ∨ x = .tup [.int k.oc, .int k.orr] := by
      have := List.mem_of_getElem? hx
      simpa using this
    rcases hx' with rfl | rfl
    · repeat walk_at "d"
      refine btw h1 ?_
      repeat walk_at "d"
      refine btw h2 ?_
      repeat walk_at "d"
      exact ⟨_, _, rfl⟩
    · repeat walk_at "d"
      refine btw h3 ?_
      repeat walk_at "d"
      refine btw h4 ?_
      repeat walk_at "d"
      exact ⟨_, _, rfl⟩
  · rintro d ⟨u, v, rfl⟩
    repeat walk_at "d"
    refine btw h5 ?_
    repeat walk_at "d"
    refine btw h6 ?_
    exact q
inductive Cus where
  | word (w : Str) | cls (l : List Cl)
def dcus : Cus → Dt
  | .word w => .str w
  | .cls l => .tup (l.map dcl)
def CusOk : Cus → Prop
  | .word w => w = "falling" ∨ w = "lasting" ∨ w = "halved"
  | .cls l => l.length ≤ 12 ∧ ∀ k ∈ l, ClOk k
def pr_is_custom : PrP := fun ds Q => ∃ c : Cus, ds = [dcus c] ∧ CusOk c ∧ Q (.bl true)
theorem len_is_custom {ds Q} (p : pr_is_custom ds Q) : ds.length = 1 := by obtain ⟨_, rfl, _⟩ := p; rfl
theorem sc_is_custom : FnScope ["value", "clause"] ["value"] (defScope (topS 68)) := ⟨rfl, rfl, rfl, by decide +kernel, rfl, by decide +kernel, by decide +kernel⟩
theorem ok_is_custom (T : Txt K mg base) : Cal P w K mg base 4 "is_custom" ["value"] (spP K pr_is_custom) := by
  refine cal_pure (T.fn "is_custom" 68 (by decide +kernel)) sc_is_custom (fun _ _ _ _ _ _ us hl => match us, hl with | [_], _ => rfl) (fun ds Q p => len_is_custom p) fun cdv A outer s H f E hr =>
    ⟨_, (pss_cons (ps_if (pt_val (pe_cbK (r := rIsi K) call_isi (by decide +kernel) (T.free "isinstance" (by decide +kernel)) (by rfl) (pa_cons (pv 0) (pa_cons (pe_gty (n := "str") (T.free "str" (by decide +kernel)) (by decide +kernel) (by rfl)) pa_nil)))) (pss_one (ps_ret (pe_cmpR (r := rIn K false) op_in_seq (pv 0) (pe_gref T.words.1 (by rfl)) rfl))) pss_nil)
      (pss_one (ps_ret (pe_and (pe_cbK (r := rIsi K) call_isi (by decide +kernel) (T.free "isinstance" (by decide +kernel)) (by rfl) (pa_cons (pv 0) (pa_cons (pe_gty (n := "tuple") (T.free "tuple" (by decide +kernel)) (by decide +kernel) (by rfl)) pa_nil))) (pe_and (pe_cmpR op_le (pe_cbK (r := DL.rLen K) call_len' boot_len (T.free "len" (by decide +kernel)) (by rfl) (pa_cons (pv 0) pa_nil)) (pe_gint (T.gint "MOST_CLAUSES" 12 (by decide +kernel)) (by rfl)) (nomark _)) (pe_one (pe_cbK (r := rAll K) (cr_all rfl) (by decide +kernel) (T.free "all" (by decide +kernel)) (by rfl) (pa_cons (pe_lc (own := [("clause", 1)]) (g := (gName 1)) (tt := tYes) rfl sc_is_custom.nd (pi_tupK (K := K) rfl (pv 0)) (blkOk_by (own := [("clause", 1)]) (N := ["value", "clause"]) (sc := (defScope (topS 68))) (by decide +kernel)) (fun _ _ _ _ _ => (pg_name (i := 1) sc_is_custom.nd rfl (Or.inl rfl))) (fun _ _ _ _ _ => pts_nil) (fun _ _ _ _ _ => (pe_cal (ok_is_clause (K := K) T) (hr.mono (by decide)) (by rfl) (pa_cons (pv 1) pa_nil)))) pa_nil)))))))), fun b ds Q p => ?_⟩
  obtain ⟨c, rfl, hc, q⟩ := p
  simp only [startD, List.map_nil]
  cases c with
  | word w =>
    have hw : w ∈ (["falling", "lasting", "halved"] : List Str) := by
      rcases hc with h | h | h <;> (subst h; simp)
    simp only [dcus]
    repeat walk_at "d"
    refine de_gtup (ns := ["falling", "lasting", "halved"]) T.words.2 ?_
    refine dr_inS ?_
    rw [decide_eq_true hw]
    exact q
  | cls l =>
    obtain ⟨hl, hk⟩ := hc
    simp only [dcus]
    repeat walk_at "d"
    rw [List.length_map]
    refine iteT' (decide_eq_true (by omega)) ?_
    repeat walk_at "d"
    refine de_lcM (by walk_at "w") (by walk_at "w") ?_
    refine di_tup ?_
    repeat walk_at "d"
    refine ⟨_, rfl, by rw [List.length_map]; omega, fun _ _ => trivial, fun _ => .bl true, ?_, ?_⟩
    · intro b i x hx
      obtain ⟨k, hk', rfl⟩ := map_get hx
      dsimp only [wipeD, List.map, List.set]
      repeat walk_at "d"
      refine ⟨k, rfl, hk k (List.mem_of_getElem? hk'), ?_⟩
      exact ⟨rfl, rfl⟩
    · generalize (l.map dcl).length = L
      rw [show (List.range L).map (fun _ => Dt.bl true) = ((List.range L).map fun _ => true).map Dt.bl by rw [List.map_map]; rfl]
      repeat walk_at "d"
      refine dc_all ?_
      rw [show ((List.range L).map fun _ => true).all id = true by simp]
      exact q
def pr_check_custom : PrP := fun ds Q => ∃ c : Cus, ds = [dcus c] ∧ CusOk c ∧ Q .non
theorem len_check_custom {ds Q} (p : pr_check_custom ds Q) : ds.length = 1 := by obtain ⟨_, rfl, _⟩ := p; rfl
theorem sc_check_custom : FnScope ["value"] ["value"] (defScope (topS 69)) := ⟨rfl, rfl, rfl, by decide +kernel, rfl, by decide +kernel, by decide +kernel⟩
theorem ok_check_custom (T : Txt K mg base) : Cal P w K mg base 5 "check_custom" ["value"] (spP K pr_check_custom) := by
  refine cal_pure (T.fn "check_custom" 69 (by decide +kernel)) sc_check_custom (fun _ _ _ _ _ _ us hl => match us, hl with | [_], _ => rfl) (fun ds Q p => len_check_custom p) fun cdv A outer s H f E hr =>
    ⟨_, (pss_one (ps_if (pt_not (pt_val (pe_cal (ok_is_custom (K := K) T) (hr.mono (by decide)) (by rfl) (pa_cons (pv 0) pa_nil)))) (pss_one ps_never) pss_nil)), fun b ds Q p => ?_⟩
  obtain ⟨c, rfl, hc, q⟩ := p
  simp only [startD, List.map_nil]
  repeat walk_at "d"
  refine ⟨c, rfl, hc, ?_⟩
  repeat walk_at "d"
  exact q
def ccl : Cus → List Cl
  | .word w => if w = "falling" then [] else if w = "lasting" then lastC 3 else halvC 3
  | .cls l => l
def pr_clauses_of : PrP := fun ds Q => ∃ c : Cus, ds = [dcus c] ∧ Q (.tup ((ccl c).map dcl))
theorem len_clauses_of {ds Q} (p : pr_clauses_of ds Q) : ds.length = 1 := by obtain ⟨_, rfl, _⟩ := p; rfl
theorem sc_clauses_of : FnScope ["custom"] ["custom"] (defScope (topS 70)) := ⟨rfl, rfl, rfl, by decide +kernel, rfl, by decide +kernel, by decide +kernel⟩
theorem ok_clauses_of (T : Txt K mg base) : Cal P w K mg base 2 "clauses_of" ["custom"] (spP K pr_clauses_of) := by
  refine cal_pure (T.fn "clauses_of" 70 (by decide +kernel)) sc_clauses_of (fun _ _ _ _ _ _ us hl => match us, hl with | [_], _ => rfl) (fun ds Q p => len_clauses_of p) fun cdv A outer s H f E hr =>
    ⟨_, (pss_cons (ps_if (pt_not (pt_val (pe_cbK (r := rIsi K) call_isi (by decide +kernel) (T.free "isinstance" (by decide +kernel)) (by rfl) (pa_cons (pv 0) (pa_cons (pe_gty (n := "str") (T.free "str" (by decide +kernel)) (by decide +kernel) (by rfl)) pa_nil))))) (pss_one (ps_ret (pv 0))) pss_nil)
      (pss_cons (ps_if (pt_cmpR op_eq (pv 0) pe_str (nomark _)) (pss_one (ps_ret (pe_tup pa_nil))) pss_nil)
      (pss_one (ps_ret (pe_ifExp (pt_cmpR op_eq (pv 0) pe_str (nomark _)) (pe_cal0 (ok_lasting_clauses (K := K) T) (hr.mono (by decide)) (by rfl)) (pe_cal0 (ok_halved_clauses (K := K) T) (hr.mono (by decide)) (by rfl))))))), fun b ds Q p => ?_⟩
  obtain ⟨c, rfl, q⟩ := p
  simp only [startD, List.map_nil]
  cases c with
  | cls l =>
    simp only [dcus]
    repeat walk_at "d"
    exact q
  | word w =>
    simp only [dcus, ccl] at q ⊢
    repeat walk_at "d"
    by_cases h1 : w = "falling"
    · refine iteT' (decide_eq_true h1) ?_
      rw [if_pos h1] at q
      repeat walk_at "d"
      exact q
    · refine iteF' (decide_eq_false h1) ?_
      rw [if_neg h1] at q
      repeat walk_at "d"
      by_cases h2 : w = "lasting"
      · refine iteT' (decide_eq_true h2) ?_
        rw [if_pos h2] at q
        repeat walk_at "d"
        exact ⟨rfl, q⟩
      · refine iteF' (decide_eq_false h2) ?_
        rw [if_neg h2] at q
        repeat walk_at "d"
        exact ⟨rfl, q⟩
def clF (k : Cl) : Frm := ⟨0, facs [(pir k.oc k.orr, k.f), (pir k.c k.r, -k.g)]⟩
theorem pir_ok {c r : Int} (h : 1 ≤ c ∧ c ≤ 4) (h' : 1 ≤ r ∧ r ≤ c) : 0 ≤ pir c r ∧ pir c r < 10 := by
  unfold pir
  have : c = 1 ∨ c = 2 ∨ c = 3 ∨ c = 4 := by omega
  rcases this with e | e | e | e <;> (subst e; omega)
def pr_clause_form : PrP := fun ds Q => ∃ k : Cl, ds = [dcl k] ∧ ClOk k ∧ Q (dfrm (clF k))
theorem len_clause_form {ds Q} (p : pr_clause_form ds Q) : ds.length = 1 := by obtain ⟨_, rfl, _⟩ := p; rfl
theorem sc_clause_form : FnScope ["clause", "count", "rank", "other_count", "other_rank", "factor", "other_factor", "parts"] ["clause"] (defScope (topS 71)) := ⟨rfl, rfl, rfl, by decide +kernel, rfl, by decide +kernel, by decide +kernel⟩
theorem ok_clause_form (T : Txt K mg base) : Cal P w K mg base 3 "clause_form" ["clause"] (spP K pr_clause_form) := by
  refine cal_pure (T.fn "clause_form" 71 (by decide +kernel)) sc_clause_form (fun _ _ _ _ _ _ us hl => match us, hl with | [_], _ => rfl) (fun ds Q p => len_clause_form p) fun cdv A outer s H f E hr =>
    ⟨_, (pss_cons (ps_asg (pv 0) (pg_tupK (K := K) (n := 6) rfl rfl (pgs_cons (pg_name (i := 1) sc_clause_form.nd rfl (.inl rfl)) (pgs_cons (pg_name (i := 2) sc_clause_form.nd rfl (.inl rfl)) (pgs_cons (pg_name (i := 3) sc_clause_form.nd rfl (.inl rfl)) (pgs_cons (pg_name (i := 4) sc_clause_form.nd rfl (.inl rfl)) (pgs_cons (pg_name (i := 5) sc_clause_form.nd rfl (.inl rfl)) (pgs_cons (pg_name (i := 6) sc_clause_form.nd rfl (.inl rfl)) pgs_nil))))))))
      (pss_cons (ps_set (i := 7) sc_clause_form.nd rfl (.inl rfl) (pe_lst (pa_cons (pe_tup (pa_cons (pe_cal (ok_place_in_row (K := K) T) (hr.mono (by decide)) (by rfl) (pa_cons (pv 3) (pa_cons (pv 4) pa_nil))) (pa_cons (pv 5) pa_nil))) (pa_cons (pe_tup (pa_cons (pe_cal (ok_place_in_row (K := K) T) (hr.mono (by decide)) (by rfl) (pa_cons (pv 1) (pa_cons (pv 2) pa_nil))) (pa_cons (pe_un un_neg (pv 6)) pa_nil))) pa_nil))))
      (pss_one (ps_ret (pe_cal (ok_form_of (K := K) T) (hr.mono (by decide)) (by rfl) (pa_cons pe_int (pa_cons (pv 7) pa_nil))))))), fun b ds Q p => ?_⟩
  obtain ⟨k, rfl, ⟨h1, h2, h3, h4, h5, h6⟩, q⟩ := p
  simp only [startD, List.map_nil, dcl]
  repeat walk_at "d"
  refine de_lstF ?_
  repeat walk_at "d"
  refine ⟨_, _, rfl, by omega, by omega, ?_⟩
  repeat walk_at "d"
  refine ⟨_, _, rfl, by omega, by omega, ?_⟩
  repeat walk_at "d"
  refine ⟨0, [(pir k.oc k.orr, k.f), (pir k.c k.r, -k.g)], rfl, fun p hp => ?_, ?_⟩
  · simp only [List.mem_cons, List.not_mem_nil, or_false] at hp
    rcases hp with e | e
    · rw [e]; exact pir_ok h3 h4
    · rw [e]; exact pir_ok h1 h2
  · exact q
end
end Cab
/-! W5d -/
set_option Elab.async false
set_option linter.all false
set_option maxRecDepth 100000
set_option maxHeartbeats 4000000
namespace Cab
open PySem PySem.Spec PyProof.Rows L2 DL
local macro_rules | `(tactic| walk_at "d") => `(tactic| first
  | with_reducible refine dx_seq ?_ | with_reducible refine dx_ret ?_ | with_reducible refine dx_asg ?_ | ((with_reducible refine dg_name ?_); dsimp only [List.set])
  | with_reducible refine de_op ?_ | ((with_reducible refine' de_var ?h1 ?_); (case h1 => exact rfl)) | with_reducible refine de_int ?_ | with_reducible refine da_cons ?_ | with_reducible refine da_nil ?_
  | ((with_reducible refine' dr_xT ?h1 ?_); (case h1 => exact rfl)) | ((with_reducible refine' dr_xL ?h1 ?_); (case h1 => exact rfl)) | with_reducible refine dr_I0 ?_ | with_reducible refine dr_I0b ?_ | with_reducible refine de_callP ?_ | with_reducible refine de_callA ?_
  | with_reducible refine de_cb ?_ | with_reducible refine de_un ?_ | with_reducible refine du_I ?_ | with_reducible refine de_bl ?_ | with_reducible refine de_non ?_ | with_reducible refine de_str ?_ | with_reducible refine de_ty ?_
  | with_reducible refine dr_eqI ?_ | with_reducible refine dr_neI ?_ | with_reducible refine dr_eqS ?_ | with_reducible refine dr_isN ?_ | with_reducible refine dr_notN ?_
  | with_reducible refine dt_and ?_ | with_reducible refine dt_or ?_ | with_reducible refine dt_not ?_ | with_reducible refine de_if ?_ | with_reducible refine de_andV ?_ | with_reducible refine de_orV ?_ | with_reducible refine de_notV ?_
  | ((with_reducible refine dt_test ?_)) | ((with_reducible refine dt_B ?_))
  | with_reducible refine dx_par' ?_ | with_reducible refine dx_par3' ?_ | with_reducible refine ex_bl ?_ | with_reducible refine ex_int ?_ | with_reducible refine isi_int ?_ | with_reducible refine isi_intB ?_ | with_reducible refine isi_tup ?_ | with_reducible refine isi_tupS ?_ | with_reducible refine isi_str ?_ | with_reducible refine de_chain ?_ | with_reducible refine dt_chain ?_ | with_reducible refine iteT ?_ | with_reducible refine iteF ?_ | with_reducible refine dx_if ?_ | with_reducible refine dx_drop ?_ | with_reducible refine dx_cont ?_ | with_reducible refine dx_next ?_
  | with_reducible refine dc_abs ?_ | with_reducible refine dc_lenT ?_ | with_reducible refine dc_lenL ?_ | with_reducible refine dc_int ?_ | with_reducible refine dc_max2 ?_ | with_reducible refine dc_min2 ?_ | with_reducible refine dc_tupL ?_
  | with_reducible refine de_fldF ?_ ?_ ?_ | with_reducible refine de_tup ?_ | ((with_reducible refine len_ok ?h1 ?_); (case h1 => exact rfl))
  | ((with_reducible refine iteT' ?h1 ?_); (case h1 => rfl)) | ((with_reducible refine iteF' ?h1 ?_); (case h1 => rfl))
  | with_reducible refine ex_int2 ?_ | ((with_reducible refine' dg_tup ?h1 ?_); (case h1 => rfl)) | with_reducible refine dgs_cons ?_ | with_reducible refine dgs_nil ?_ | with_reducible refine dc_lenX ?_ | with_reducible refine dr_inX ?_
  | dsimp only [List.set])
/-- a comprehension's targets -/
local macro_rules | `(tactic| walk_at "w") => `(tactic| repeat first
  | exact wp_name (by simp) | exact mo_name | exact wps_nil | exact mos_nil
  | refine wp_tup ?_ | refine wps_cons ?_ ?_ ?_ ?_ | refine mo_tup ?_ | refine mos_cons ?_ ?_)
/-- ends that are told by a value: a bool, a pair -/
local macro_rules | `(tactic| walk_at "e") => `(tactic| first
  | walk_at "d"
  | ((with_reducible refine Exists.intro _ (And.intro rfl ?_))))
section
variable {P : Program} {w : World} {K : PySem.W.Frag} {mg : Str → Option Value} {base : Heap}
/-! ### receipts, worth -/
structure Rcp where
  ride : Rid
  am : List (Option Int)
  play : Int
def damt : Option Int → Dt
  | none => .non
  | some v => .int v
def drcp (K : PySem.W.Frag) (r : Rcp) : Dt := .tup [dride K r.ride, .tup (r.am.map damt), .int r.play]
def AmOk (o : Option Int) : Prop := ∀ v, o = some v → 0 ≤ v ∧ v ≤ 100000000
def RcpOk (r : Rcp) : Prop := RidOk r.ride ∧ r.am.length = r.ride.riders.length ∧ (∀ o ∈ r.am, AmOk o) ∧ 0 ≤ r.play ∧ r.play ≤ 1000
def pr_is_amounts : PrP := fun ds Q => ∃ am : List (Option Int), ds = [.tup (am.map damt), .int am.length] ∧ am.length ≤ 6 ∧ (∀ o ∈ am, AmOk o) ∧ Q (.bl true)
theorem len_is_amounts {ds Q} (p : pr_is_amounts ds Q) : ds.length = 2 := by obtain ⟨_, rfl, _⟩ := p; rfl
theorem sc_is_amounts : FnScope ["value", "count", "amount"] ["value", "count"] (defScope (topS 72)) := ⟨rfl, rfl, rfl, by decide +kernel, rfl, by decide +kernel, by decide +kernel⟩
theorem ok_is_amounts (T : Txt K mg base) : Cal P w K mg base 3 "is_amounts" ["value", "count"] (spP K pr_is_amounts) := by
  refine cal_pure (T.fn "is_amounts" 72 (by decide +kernel)) sc_is_amounts (fun _ _ _ _ _ _ us hl => match us, hl with | [_, _], _ => rfl) (fun ds Q p => len_is_amounts p) fun cdv A outer s H f E hr =>
    ⟨_, (pss_cons (ps_if (PW.pt (pw_or (pt_not (pt_val (pe_cbK (r := rIsi K) call_isi (by decide +kernel) (T.free "isinstance" (by decide +kernel)) (by rfl) (pa_cons (pv 0) (pa_cons (pe_gty (n := "tuple") (T.free "tuple" (by decide +kernel)) (by decide +kernel) (by rfl)) pa_nil))))) (pw_or1 (pt_cmpR op_ne (pe_cbK (r := DL.rLen K) call_len' boot_len (T.free "len" (by decide +kernel)) (by rfl) (pa_cons (pv 0) pa_nil)) (pv 1) (nomark _))))) (pss_one (ps_ret pe_bl)) pss_nil)
      (pss_one (ps_ret (pe_cbK (r := rAll K) (cr_all rfl) (by decide +kernel) (T.free "all" (by decide +kernel)) (by rfl) (pa_cons (pe_lc (own := [("amount", 2)]) (g := (gName 2)) (tt := tYes) rfl sc_is_amounts.nd (pi_tupK (K := K) rfl (pv 0)) (blkOk_by (own := [("amount", 2)]) (N := ["value", "count", "amount"]) (sc := (defScope (topS 72))) (by decide +kernel)) (fun _ _ _ _ _ => (pg_name (i := 2) sc_is_amounts.nd rfl (Or.inl rfl))) (fun _ _ _ _ _ => pts_nil) (fun _ _ _ _ _ => (pe_or (pe_cmpR op_isN (pv 2) pe_non (nomark _)) (pe_one (pe_cal (ok_is_between (K := K) T) (hr.mono (by decide)) (by rfl) (pa_cons (pv 2) (pa_cons pe_int (pa_cons (pe_gint (T.gint "MOST_AMOUNT" 100000000 (by decide +kernel)) (by rfl)) pa_nil)))))))) pa_nil))))), fun b ds Q p => ?_⟩
  obtain ⟨am, rfl, hl, ho, q⟩ := p
  simp only [startD, List.map_nil]
  repeat walk_at "d"
  rw [List.length_map]
  refine iteF' (by simp) ?_
  repeat walk_at "d"
  refine de_lcM (by walk_at "w") (by walk_at "w") ?_
  refine di_tup ?_
  repeat walk_at "d"
  refine ⟨_, rfl, by rw [List.length_map]; omega, fun _ _ => trivial, fun _ => .bl true, ?_, ?_⟩
  · intro b i x hx
    obtain ⟨o, ho', rfl⟩ := map_get hx
    have hok := ho o (List.mem_of_getElem? ho')
    dsimp only [wipeD, List.map, List.set]
    cases o with
    | none =>
      simp only [damt]
      repeat walk_at "d"
      try simp only [if_true]
      first | exact ⟨rfl, rfl⟩ | exact ⟨trivial, rfl⟩ | trivial
    | some v =>
      simp only [damt]
      repeat walk_at "d"
      try simp only [if_false, Bool.false_eq_true]
      repeat walk_at "d"
      refine btw (hok v rfl) ?_
      first | exact ⟨rfl, rfl⟩ | exact ⟨trivial, rfl⟩ | trivial
  · rw [List.length_map, show (List.range am.length).map (fun _ => Dt.bl true) = ((List.range am.length).map fun _ => true).map Dt.bl by rw [List.map_map]; rfl]
    repeat walk_at "d"
    refine dc_all ?_
    rw [show ((List.range am.length).map fun _ => true).all id = true by simp]
    exact q
def pr_is_receipt (K : PySem.W.Frag) : PrP := fun ds Q => ∃ r : Rcp, ds = [drcp K r] ∧ RcpOk r ∧ Q (.bl true)
theorem len_is_receipt {ds Q} (p : pr_is_receipt K ds Q) : ds.length = 1 := by obtain ⟨_, rfl, _⟩ := p; rfl
theorem sc_is_receipt : FnScope ["value"] ["value"] (defScope (topS 73)) := ⟨rfl, rfl, rfl, by decide +kernel, rfl, by decide +kernel, by decide +kernel⟩
theorem ok_is_receipt (T : Txt K mg base) : Cal P w K mg base 4 "is_receipt" ["value"] (spP K (pr_is_receipt K)) := by
  refine cal_pure (T.fn "is_receipt" 73 (by decide +kernel)) sc_is_receipt (fun _ _ _ _ _ _ us hl => match us, hl with | [_], _ => rfl) (fun ds Q p => len_is_receipt p) fun cdv A outer s H f E hr =>
    ⟨_, (pss_cons (ps_if (PW.pt (pw_or (pt_not (pt_val (pe_cbK (r := rIsi K) call_isi (by decide +kernel) (T.free "isinstance" (by decide +kernel)) (by rfl) (pa_cons (pv 0) (pa_cons (pe_gty (n := "tuple") (T.free "tuple" (by decide +kernel)) (by decide +kernel) (by rfl)) pa_nil))))) (pw_or (pt_cmpR op_ne (pe_cbK (r := DL.rLen K) call_len' boot_len (T.free "len" (by decide +kernel)) (by rfl) (pa_cons (pv 0) pa_nil)) pe_int (nomark _)) (pw_or1 (pt_not (pt_val (pe_cbK (r := rIsi K) call_isi (by decide +kernel) (T.free "isinstance" (by decide +kernel)) (by rfl) (pa_cons (pe_ixK (K := K) rfl (pv 0) pe_int) (pa_cons (pe_gref (T.cls "Ride" (by decide +kernel)).2.1 (by rfl)) pa_nil))))))))) (pss_one (ps_ret pe_bl)) pss_nil)
      (pss_one (ps_ret (pe_and (pe_cal (ok_is_amounts (K := K) T) (hr.mono (by decide)) (by rfl) (pa_cons (pe_ixK (K := K) rfl (pv 0) pe_int) (pa_cons (pe_cbK (r := rLenOwn (He.ga K "Ride") (spP K (pr_Ride___len__ K))) (cr_lenOwnK (K := K) rfl (ok_Ride___len__ (K := K) T) (hr.mono (by decide))) (by decide +kernel) (T.free "len" (by decide +kernel)) (by rfl) (pa_cons (pe_ixK (K := K) rfl (pv 0) pe_int) pa_nil)) pa_nil))) (pe_one (pe_cal (ok_is_between (K := K) T) (hr.mono (by decide)) (by rfl) (pa_cons (pe_ixK (K := K) rfl (pv 0) pe_int) (pa_cons pe_int (pa_cons (pe_gint (T.gint "MOST_PLAY" 1000 (by decide +kernel)) (by rfl)) pa_nil))))))))), fun b ds Q p => ?_⟩
  obtain ⟨r, rfl, ⟨h1, h2, h3, h4, h5⟩, q⟩ := p
  simp only [startD, List.map_nil, drcp]
  repeat walk_at "d"
  refine de_gptr ?_
  repeat walk_at "d"
  refine isi_ride T ?_
  repeat walk_at "d"
  refine dc_lenOwn ?_
  refine ⟨r.ride, rfl, _, rfl, by have := h1.2.1.2.1; omega, ?_⟩
  repeat walk_at "d"
  refine ⟨r.am, by rw [h2], by rw [h2]; exact h1.2.1.2.1, h3, ?_⟩
  repeat walk_at "d"
  refine btw ⟨h4, h5⟩ ?_
  exact q
def pr_check_receipts (K : PySem.W.Frag) : PrP := fun ds Q => ∃ rs : List Rcp, ds = [.tup (rs.map (drcp K))] ∧ rs.length ≤ 6 ∧ (∀ r ∈ rs, RcpOk r) ∧ Q .non
theorem len_check_receipts {ds Q} (p : pr_check_receipts K ds Q) : ds.length = 1 := by obtain ⟨_, rfl, _⟩ := p; rfl
theorem sc_check_receipts : FnScope ["value", "index", "receipt"] ["value"] (defScope (topS 74)) := ⟨rfl, rfl, rfl, by decide +kernel, rfl, by decide +kernel, by decide +kernel⟩
theorem ok_check_receipts (T : Txt K mg base) : Cal P w K mg base 5 "check_receipts" ["value"] (spP K (pr_check_receipts K)) := by
  refine cal_pure (T.fn "check_receipts" 74 (by decide +kernel)) sc_check_receipts (fun _ _ _ _ _ _ us hl => match us, hl with | [_], _ => rfl) (fun ds Q p => len_check_receipts p) fun cdv A outer s H f E hr =>
    ⟨_, (pss_cons (ps_if (PW.pt (pw_or (pt_not (pt_val (pe_cbK (r := rIsi K) call_isi (by decide +kernel) (T.free "isinstance" (by decide +kernel)) (by rfl) (pa_cons (pv 0) (pa_cons (pe_gty (n := "tuple") (T.free "tuple" (by decide +kernel)) (by decide +kernel) (by rfl)) pa_nil))))) (pw_or1 (pt_cmpR op_gt (pe_cbK (r := DL.rLen K) call_len' boot_len (T.free "len" (by decide +kernel)) (by rfl) (pa_cons (pv 0) pa_nil)) (pe_gint (T.gint "MOST_RECEIPTS" 6 (by decide +kernel)) (by rfl)) (nomark _))))) (pss_one ps_never) pss_nil)
      (pss_one (ps_for PassesOwn.never rfl (pi_enumTK (K := K) rfl (by rfl) (T.free "enumerate" (by decide +kernel)) (pa_cons (pv 0) pa_nil)) (pg_tupK (K := K) (n := 2) rfl rfl (pgs_cons (pg_name (i := 1) sc_check_receipts.nd rfl (.inl rfl)) (pgs_cons (pg_name (i := 2) sc_check_receipts.nd rfl (.inl rfl)) pgs_nil)))
      (pss_one (ps_if (pt_not (pt_val (pe_cal (ok_is_receipt (K := K) T) (hr.mono (by decide)) (by rfl) (pa_cons (pv 2) pa_nil)))) (pss_one ps_never) pss_nil))))), fun b ds Q p => ?_⟩
  obtain ⟨rs, rfl, hl, hr1, q⟩ := p
  simp only [startD, List.map_nil]
  repeat walk_at "d"
  rw [List.length_map]
  refine iteF' (decide_eq_false (by omega)) ?_
  repeat walk_at "d"
  refine dx_for (di_enumT ?_)
  repeat walk_at "d"
  refine ⟨_, rfl, fun n d => ∃ x y, d = ⟨[some (.tup (rs.map (drcp K))), x, y], own0⟩, ⟨_, _, rfl⟩, fun _ _ _ _ => trivial, ?_, ?_⟩
  · rintro n x d hx ⟨u, v, rfl⟩
    obtain ⟨y, hy, rfl⟩ := enumD_get hx
    obtain ⟨r, hr', rfl⟩ := map_get hy
    repeat walk_at "d"
    refine ⟨r, rfl, hr1 r (List.mem_of_getElem? hr'), ?_⟩
    repeat walk_at "d"
    exact ⟨_, _, rfl⟩
  · rintro d ⟨u, v, rfl⟩
    exact q
def pr_check_known (K : PySem.W.Frag) : PrP := fun ds Q => ∃ (c : Cus) (o : Str) (rs : List Rcp), ds = [dcus c, .str o, .tup (rs.map (drcp K))] ∧ CusOk c ∧ OrdOk o ∧ rs.length ≤ 6 ∧ (∀ r ∈ rs, RcpOk r) ∧ Q .non
theorem len_check_known {ds Q} (p : pr_check_known K ds Q) : ds.length = 3 := by obtain ⟨_, _, _, rfl, _⟩ := p; rfl
theorem sc_check_known : FnScope ["custom", "order", "receipts"] ["custom", "order", "receipts"] (defScope (topS 80)) := ⟨rfl, rfl, rfl, by decide +kernel, rfl, by decide +kernel, by decide +kernel⟩
theorem ok_check_known (T : Txt K mg base) : Cal P w K mg base 6 "check_known" ["custom", "order", "receipts"] (spP K (pr_check_known K)) := by
  refine cal_pure (T.fn "check_known" 80 (by decide +kernel)) sc_check_known (fun _ _ _ _ _ _ us hl => match us, hl with | [_, _, _], _ => rfl) (fun ds Q p => len_check_known p) fun cdv A outer s H f E hr =>
    ⟨_, (pss_cons (ps_expr (pe_cal (ok_check_custom (K := K) T) (hr.mono (by decide)) (by rfl) (pa_cons (pv 0) pa_nil)))
      (pss_cons (ps_expr (pe_cal (ok_check_order (K := K) T) (hr.mono (by decide)) (by rfl) (pa_cons (pv 1) pa_nil)))
      (pss_one (ps_expr (pe_cal (ok_check_receipts (K := K) T) (hr.mono (by decide)) (by rfl) (pa_cons (pv 2) pa_nil)))))), fun b ds Q p => ?_⟩
  obtain ⟨c, o, rs, rfl, hc, ho, hl, hr1, q⟩ := p
  simp only [startD, List.map_nil]
  repeat walk_at "d"
  refine ⟨c, rfl, hc, ?_⟩
  repeat walk_at "d"
  refine ⟨o, rfl, ho, ?_⟩
  repeat walk_at "d"
  refine ⟨rs, rfl, hl, hr1, ?_⟩
  exact q
def pr_worth : PrP := fun ds Q => ∃ (f : Frm) (t : List (List Rat)), ds = [dfrm f, dtab t] ∧ FrmOk f ∧ TblOk t ∧ SzT 310 t ∧ Q (dq (wrt f t))
theorem len_worth {ds Q} (p : pr_worth ds Q) : ds.length = 2 := by obtain ⟨_, _, rfl, _⟩ := p; rfl
def wrtN (f : Frm) (s : List Rat) (n : Nat) : Rat := ((f.fac.zip s).take n).foldl (fun s p => s + (p.1 : Rat) * p.2) (f.num : Rat)
theorem wrtN_sz {f : Frm} {s : List Rat} (hf : FrmOk f) (hs : ∀ r ∈ s, SzR 310 r) : ∀ n, n ≤ 10 → SzR (31 + n * 341) (wrtN f s n)
  | 0, _ => by
    unfold wrtN
    rw [List.take_zero]
    have : ((f.num : Int) : Rat).num = f.num := Rat.num_intCast _
    refine ⟨?_, ?_⟩
    · show ((f.num : Rat)).num.natAbs < _
      rw [this]; exact Nat.lt_of_lt_of_le hf.2.1 (Nat.pow_le_pow_right (by decide) (by omega))
    · show ((f.num : Rat)).den < _
      rw [Rat.den_intCast]; exact Nat.one_lt_two_pow (by omega)
  | n + 1, hn => by
    have ih := wrtN_sz hf hs n (by omega)
    unfold wrtN at ih ⊢
    cases e : (f.fac.zip s)[n]? with
    | none =>
      rw [List.take_add_one, e]
      simp only [Option.toList_none, List.append_nil]
      exact ih.up (by omega)
    | some p =>
      rw [foldl_take_succ e]
      have hm := List.of_mem_zip (List.mem_of_getElem? (l := f.fac.zip s) (a := (p.1, p.2)) e)
      exact (ih.add ((hs _ hm.2).mul (hf.2.2 _ hm.1))).up (by omega)
theorem wrtN_all {f : Frm} {t : List (List Rat)} (hf : f.fac.length = 10) : wrtN f t.flatten 10 = wrt f t := by
  unfold wrtN wrt
  rw [List.take_of_length_le (by rw [List.length_zip]; omega)]
theorem sc_worth : FnScope ["form", "table", "total", "shares", "row", "share", "factor"] ["form", "table"] (defScope (topS 76)) := ⟨rfl, rfl, rfl, by decide +kernel, rfl, by decide +kernel, by decide +kernel⟩
theorem ok_worth (T : Txt K mg base) : Cal P w K mg base 4 "worth" ["form", "table"] (spP K pr_worth) := by
  refine cal_pure (T.fn "worth" 76 (by decide +kernel)) sc_worth (fun _ _ _ _ _ _ us hl => match us, hl with | [_, _], _ => rfl) (fun ds Q p => len_worth p) fun cdv A outer s H f E hr =>
    ⟨_, (pss_cons (ps_set (i := 2) sc_worth.nd rfl (.inl rfl) (pe_tup (pa_cons (pe_ixK (K := K) rfl (pv 0) pe_int) (pa_cons pe_int pa_nil))))
      (pss_cons (ps_setLc2 (i := 3) (own := [("row", 4), ("share", 5)]) (vs1 := [5]) (g := (gName 4)) (g1 := (gName 5)) (tt := tYes) (tt1 := tYes) rfl sc_worth.nd rfl rfl (sw_true rfl rfl rfl (by decide +kernel)) (pi_tupK (K := K) rfl (pv 1)) (blkOk_by (own := [("row", 4), ("share", 5)]) (N := ["form", "table", "total", "shares", "row", "share", "factor"]) (sc := (defScope (topS 76))) (by decide +kernel)) (by decide) (fun _ _ _ _ _ => (pg_name (i := 4) sc_worth.nd rfl (Or.inl rfl))) (fun _ _ _ _ _ => pts_nil) (fun _ _ _ _ _ => (pi_tupK (K := K) rfl (pv 4))) (fun _ _ _ _ _ => (pg_name (i := 5) sc_worth.nd rfl (Or.inl rfl))) (fun _ _ _ _ _ => pts_nil) (fun _ _ _ _ _ => (pv 5)))
      (pss_cons (ps_for PassesOwn.never rfl (pi_zipTLK (K := K) rfl (by rfl) (T.free "zip" (by decide +kernel)) (pa_cons (pe_ixK (K := K) rfl (pv 0) pe_int) (pa_cons (pv 3) pa_nil))) (pg_tupK (K := K) (n := 2) rfl rfl (pgs_cons (pg_name (i := 6) sc_worth.nd rfl (.inl rfl)) (pgs_cons (pg_name (i := 5) sc_worth.nd rfl (.inl rfl)) pgs_nil)))
      (pss_one (ps_set (i := 2) sc_worth.nd rfl (.inl rfl) (pe_cal (ok_plus (K := K) T) (hr.mono (by decide)) (by rfl) (pa_cons (pv 2) (pa_cons (pe_cal (ok_times (K := K) T) (hr.mono (by decide)) (by rfl) (pa_cons (pv 6) (pa_cons (pv 5) pa_nil))) pa_nil))))))
      (pss_one (ps_ret (pv 2)))))), fun b ds Q p => ?_⟩
  obtain ⟨f, t, rfl, hf, ht, hsz, q⟩ := p
  obtain ⟨hl, hrows⟩ := ht.rows
  have h10 : t.flatten.length = 10 := by
    obtain ⟨a, b1, b2, c1, c2, c3, d1, d2, d3, d4, rfl, _⟩ := ht
    rfl
  simp only [startD, List.map_nil, dfrm, dtab_eq]
  repeat walk_at "d"
  refine de_frz ?_
  refine de_lc2O (by walk_at "w") (by walk_at "w") (by walk_at "w") (by walk_at "w") ?_
  refine di_tup ?_
  repeat walk_at "d"
  refine ⟨_, rfl, fun _ => trivial, fun i acc => acc = ((t.take i).flatten).map dq ∧ i ≤ 4, ⟨rfl, by omega⟩, ?_, ?_⟩
  · rintro b i x acc hx ⟨rfl, hi⟩
    obtain ⟨r, hr', rfl⟩ := map_get hx
    have hi4 : i < 4 := by rw [← hl]; exact (List.getElem?_eq_some_iff.mp hr').1
    dsimp only [wipeD, List.map, List.set, drow]
    repeat walk_at "d"
    refine ⟨rfl, ?_⟩
    refine di_tup ?_
    repeat walk_at "d"
    refine ⟨_, rfl, rfl, fun _ => trivial, fun j acc => acc = ((t.take i).flatten).map dq ++ (r.take j).map dq ∧ j ≤ 4, ⟨by simp, by omega⟩, ?_, ?_⟩
    · rintro b j y acc hy ⟨rfl, hj⟩
      obtain ⟨s, hs, rfl⟩ := map_get hy
      have hj4 : j < 4 := by
        have := (List.getElem?_eq_some_iff.mp hs).1
        have := (hrows i r hr').2
        omega
      dsimp only [wipeD, List.map, List.set]
      repeat walk_at "d"
      refine ⟨rfl, ?_, ?_, by omega⟩
      · have h1 : (t.take i).flatten.length ≤ t.flatten.length := by
          conv => rhs; rw [← List.take_append_drop i t, List.flatten_append, List.length_append]
          omega
        simp only [List.length_append, List.length_map, List.length_take]
        omega
      · rw [List.take_add_one, hs, List.map_append, List.append_assoc]; rfl
    · rintro acc ⟨rfl, _⟩
      refine ⟨?_, by omega⟩
      rw [List.length_map, List.take_length, List.take_add_one, hr', List.flatten_append, List.map_append]
      simp
  · rintro acc ⟨rfl, _⟩ p hp
    rw [List.length_map, List.take_length]
    refine ⟨p, _, rfl, Own.put_same, ?_⟩
    rw [put_del hp]
    repeat walk_at "d"
    refine dx_for (di_zipTL ?_)
    repeat walk_at "d"
    refine ⟨_, _, rfl, fun n d => ∃ x y z, d = ⟨[some (.tup [.int f.num, .tup (f.fac.map Dt.int)]), some (.tup (t.map drow)), some (dq (wrtN f t.flatten n)), some (.lst (t.flatten.map dq)), x, y, z], own0⟩, ?_, fun _ _ _ _ => trivial, ?_, ?_⟩
    · refine ⟨none, none, none, ?_⟩
      have e0 : dq (wrtN f t.flatten 0) = .tup [.int f.num, .int 1] := by
        unfold wrtN
        rw [List.take_zero]
        show Dt.tup [.int ((f.num : Int) : Rat).num, .int (((f.num : Int) : Rat).den : Int)] = _
        rw [Rat.num_intCast, Rat.den_intCast]; rfl
      rw [e0]
    · rintro n x d hx ⟨u, v, w, rfl⟩
      obtain ⟨y, z, hy, hz, rfl⟩ := zipD_get hx
      obtain ⟨m, hm, rfl⟩ := map_get hy
      obtain ⟨r, hr', rfl⟩ := map_get hz
      have hn : n < 10 := by have := (List.getElem?_eq_some_iff.mp hm).1; rw [hf.1] at this; exact this
      have hzip : (f.fac.zip t.flatten)[n]? = some (m, r) := by
        rw [List.getElem?_zip_eq_some]; exact ⟨hm, hr'⟩
      have hrs : SzR 310 r := by
        obtain ⟨row, h1, h2⟩ := List.mem_flatten.mp (List.mem_of_getElem? hr')
        exact hsz row h1 r h2
      have hfs : ∀ r ∈ t.flatten, SzR 310 r := by
        intro r hr2
        obtain ⟨row, h1, h2⟩ := List.mem_flatten.mp hr2
        exact hsz row h1 r h2
      have hms := hf.2.2 m (List.mem_of_getElem? hm)
      have hw := wrtN_sz hf hfs n (by omega)
      have hw2 : wrtN f t.flatten (n + 1) = wrtN f t.flatten n + (m : Rat) * r := by
        unfold wrtN; rw [foldl_take_succ hzip]
      repeat walk_at "d"
      refine ⟨m, r, rfl, Nat.lt_of_lt_of_le hms (Nat.pow_le_pow_right (by decide) (by decide)), hrs.sz (by decide), ?_⟩
      repeat walk_at "d"
      refine ⟨_, _, rfl, hw.sz (by omega), (hrs.mul hms).sz (by decide), ?_⟩
      repeat walk_at "d"
      exact ⟨_, _, _, by rw [hw2]⟩
    · rintro d ⟨u, v, w, rfl⟩
      rw [show (zipD (f.fac.map Dt.int) (t.flatten.map dq)).length = 10 by rw [zipD_len, List.length_map, List.length_map, hf.1, h10]; rfl, wrtN_all hf.1]
      repeat walk_at "d"
      exact q
end
end Cab
/-! W5e -/
set_option Elab.async false
set_option linter.all false
set_option maxRecDepth 100000
set_option maxHeartbeats 4000000
namespace Cab
open PySem PySem.Spec PyProof.Rows L2 DL
local macro_rules | `(tactic| walk_at "d") => `(tactic| first
  | with_reducible refine dx_seq ?_ | with_reducible refine dx_ret ?_ | with_reducible refine dx_asg ?_ | ((with_reducible refine dg_name ?_); dsimp only [List.set])
  | with_reducible refine de_op ?_ | ((with_reducible refine' de_var ?h1 ?_); (case h1 => exact rfl)) | with_reducible refine de_int ?_ | with_reducible refine da_cons ?_ | with_reducible refine da_nil ?_
  | ((with_reducible refine' dr_xT ?h1 ?_); (case h1 => exact rfl)) | ((with_reducible refine' dr_xL ?h1 ?_); (case h1 => exact rfl)) | with_reducible refine dr_I0 ?_ | with_reducible refine dr_I0b ?_ | with_reducible refine de_callP ?_ | with_reducible refine de_callA ?_
  | with_reducible refine de_cb ?_ | with_reducible refine de_un ?_ | with_reducible refine du_I ?_ | with_reducible refine de_bl ?_ | with_reducible refine de_non ?_ | with_reducible refine de_str ?_ | with_reducible refine de_ty ?_
  | with_reducible refine dr_eqI ?_ | with_reducible refine dr_neI ?_ | with_reducible refine dr_eqS ?_ | with_reducible refine dr_isN ?_ | with_reducible refine dr_notN ?_
  | with_reducible refine dt_and ?_ | with_reducible refine dt_or ?_ | with_reducible refine dt_not ?_ | with_reducible refine de_if ?_ | with_reducible refine de_andV ?_ | with_reducible refine de_orV ?_ | with_reducible refine de_notV ?_
  | ((with_reducible refine dt_test ?_)) | ((with_reducible refine dt_B ?_))
  | with_reducible refine dx_par' ?_ | with_reducible refine dx_par3' ?_ | with_reducible refine ex_bl ?_ | with_reducible refine ex_int ?_ | with_reducible refine isi_int ?_ | with_reducible refine isi_intB ?_ | with_reducible refine isi_tup ?_ | with_reducible refine isi_tupS ?_ | with_reducible refine isi_str ?_ | with_reducible refine de_chain ?_ | with_reducible refine dt_chain ?_ | with_reducible refine iteT ?_ | with_reducible refine iteF ?_ | with_reducible refine dx_if ?_ | with_reducible refine dx_drop ?_ | with_reducible refine dx_cont ?_ | with_reducible refine dx_next ?_
  | with_reducible refine dc_abs ?_ | with_reducible refine dc_lenT ?_ | with_reducible refine dc_lenL ?_ | with_reducible refine dc_int ?_ | with_reducible refine dc_max2 ?_ | with_reducible refine dc_min2 ?_ | with_reducible refine dc_tupL ?_
  | with_reducible refine de_fldF ?_ ?_ ?_ | with_reducible refine de_tup ?_ | ((with_reducible refine len_ok ?h1 ?_); (case h1 => exact rfl))
  | ((with_reducible refine iteT' ?h1 ?_); (case h1 => rfl)) | ((with_reducible refine iteF' ?h1 ?_); (case h1 => rfl))
  | with_reducible refine ex_int2 ?_ | ((with_reducible refine' dg_tup ?h1 ?_); (case h1 => rfl)) | with_reducible refine dgs_cons ?_ | with_reducible refine dgs_nil ?_ | with_reducible refine dc_lenX ?_ | with_reducible refine dr_inX ?_
  | dsimp only [List.set])
/-- a comprehension's targets -/
local macro_rules | `(tactic| walk_at "w") => `(tactic| repeat first
  | exact wp_name (by simp) | exact mo_name | exact wps_nil | exact mos_nil
  | refine wp_tup ?_ | refine wps_cons ?_ ?_ ?_ ?_ | refine mo_tup ?_ | refine mos_cons ?_ ?_)
/-- ends that are told by a value: a bool, a pair -/
local macro_rules | `(tactic| walk_at "e") => `(tactic| first
  | walk_at "d"
  | ((with_reducible refine Exists.intro _ (And.intro rfl ?_))))
section
variable {P : Program} {w : World} {K : PySem.W.Frag} {mg : Str → Option Value} {base : Heap}
/-! ### rooms, keeps, fares, fits -/
theorem addAt_bd {B : Nat} {l : List Int} {p : Int × Int} (h : ∀ x ∈ l, x.natAbs ≤ B) : ∀ x ∈ addAt l p, x.natAbs ≤ B + p.2.natAbs := by
  intro x hx
  unfold addAt at hx
  rcases List.mem_or_eq_of_mem_set hx with h1 | h1
  · have := h x h1; omega
  · have h2 : (l.getD p.1.toNat 0).natAbs ≤ B := by
      rw [List.getD_eq_getElem?_getD]
      cases e : l[p.1.toNat]? with
      | none => simp
      | some y => exact h y (List.mem_of_getElem? e)
    rw [h1]; omega
theorem foldl_addAt_bd {m : Nat} : ∀ (ps : List (Int × Int)) (B : Nat) (l : List Int), (∀ x ∈ l, x.natAbs ≤ B) → (∀ p ∈ ps, p.2.natAbs ≤ m) → ∀ x ∈ ps.foldl addAt l, x.natAbs ≤ B + ps.length * m
  | [], B, l, h, _, x, hx => by simpa using h x hx
  | p :: ps, B, l, h, hp, x, hx => by
    rw [List.foldl_cons] at hx
    have h1 := foldl_addAt_bd ps (B + m) (addAt l p) (fun y hy => by
      have := addAt_bd h y hy
      have := hp p List.mem_cons_self
      omega) (fun q hq => hp q (List.mem_cons_of_mem _ hq)) x hx
    rw [List.length_cons, Nat.succ_mul]
    omega
theorem facs_bd {m : Nat} {ps : List (Int × Int)} (hp : ∀ p ∈ ps, p.2.natAbs ≤ m) : ∀ x ∈ facs ps, x.natAbs ≤ ps.length * m := by
  intro x hx
  have := foldl_addAt_bd ps 0 (List.replicate 10 0) (fun y hy => by rw [List.eq_of_mem_replicate hy]; decide) hp x hx
  omega
theorem clF_ok {k : Cl} (h : ClOk k) : FrmOk (clF k) := by
  obtain ⟨h1, h2, h3, h4, h5, h6⟩ := h
  refine ⟨facs_len _, (by decide : (0 : Int).natAbs < 2 ^ 30), fun x hx => ?_⟩
  have := facs_bd (m := 100) (fun p hp => by
    simp only [List.mem_cons, List.not_mem_nil, or_false] at hp
    rcases hp with e | e
    · rw [e]; show k.f.natAbs ≤ 100; omega
    · rw [e]; show (-k.g).natAbs ≤ 100; omega) x hx
  have h2 : ([(pir k.oc k.orr, k.f), (pir k.c k.r, -k.g)] : List (Int × Int)).length = 2 := rfl
  rw [h2] at this
  omega
theorem ffrm_fs {r : Rid} (hr : RidOk r) (o : Str) (i : Int) : Fs 28 (ffrm r o i) := by
  refine ⟨(by decide : (0 : Int).natAbs < 2 ^ 28), fun x hx => ?_⟩
  have h := facs_bd (m := 1000000) (fun p hp => by
    unfold fparts at hp
    obtain ⟨t, ht, hp⟩ := List.mem_flatMap.mp hp
    unfold fpart at hp
    split at hp
    · rw [List.mem_singleton.mp hp]
      show (r.costs.getD t 0).natAbs ≤ 1000000
      have ht := List.mem_range.mp ht
      rw [List.getD_eq_getElem?_getD, List.getElem?_eq_getElem ht]
      have := hr.1.2.2 _ (List.getElem_mem ht)
      show (r.costs[t]).natAbs ≤ _
      omega
    · cases hp) x hx
  have h1 := fparts_len r o i r.costs.length
  have h2 := hr.1.2.1
  have h3 : (fparts r o i r.costs.length).length * 1000000 ≤ 12 * 1000000 := Nat.mul_le_mul_right _ (by omega)
  omega
theorem ffrm_ok {r : Rid} (hr : RidOk r) (o : Str) (i : Int) : FrmOk (ffrm r o i) := ⟨facs_len _, (ffrm_fs hr o i).up (by decide)⟩
theorem cst_fs {n : Int} (h : n.natAbs < 2 ^ 28) : Fs 28 ⟨n, facs []⟩ := by
  refine ⟨h, fun x hx => ?_⟩
  have := facs_bd (m := 0) (fun p hp => by cases hp) x hx
  have h0 : ([] : List (Int × Int)).length = 0 := rfl
  rw [h0] at this
  omega
theorem jn_len (a b : Frm) (m n : Int) : (jn a m b n).fac.length = min a.fac.length b.fac.length := by simp [jn]
theorem getD_bd {l : List Int} {n : Nat} (h : ∀ x ∈ l, x.natAbs < 2 ^ n) (i : Nat) : (l.getD i 0).natAbs < 2 ^ n := by
  rw [List.getD_eq_getElem?_getD]
  cases e : l[i]? with
  | none => exact Nat.two_pow_pos _
  | some y => exact h y (List.mem_of_getElem? e)
theorem jn_ok {a b : Frm} {k : Int} (ha : Fs 28 a) (hb : Fs 28 b) (la : a.fac.length = 10) (lb : b.fac.length = 10) (hk : k = 1 ∨ k = -1) : FrmOk (jn a 1 b k) := by
  refine ⟨by rw [jn_len, la, lb]; rfl, ?_, fun x hx => ?_⟩
  · have h1 := ha.1
    have h2 := hb.1
    show (1 * a.num + k * b.num).natAbs < _
    rcases hk with e | e <;> (rw [e]; omega)
  · obtain ⟨i, _, rfl⟩ := List.mem_map.mp hx
    have h1 := getD_bd ha.2 i
    have h2 := getD_bd hb.2 i
    rcases hk with e | e <;> (rw [e]; omega)
def rcpI (o : Str) (r : Rcp) (i : Nat) : List Frm := match r.am.getD i none with
  | none => []
  | some v => [jn ⟨v + r.play, facs []⟩ 1 (ffrm r.ride o i) (-1), jn ⟨r.play - v, facs []⟩ 1 (ffrm r.ride o i) 1]
def rcpN (o : Str) (r : Rcp) (n : Nat) : List Frm := (List.range n).flatMap (rcpI o r)
def rooms (c : Cus) (o : Str) (rs : List Rcp) : List Frm := (ccl c).map clF ++ rs.flatMap fun r => rcpN o r r.am.length
theorem ccl_ok {c : Cus} (h : CusOk c) : (ccl c).length ≤ 12 ∧ ∀ k ∈ ccl c, ClOk k := by
  cases c with
  | cls l => exact h
  | word w =>
    rcases h with e | e | e
    · rw [e]; exact ⟨by decide, fun k hk => by cases hk⟩
    · rw [e]
      have e' : ccl (.word "lasting") = [⟨2, 1, 1, 1, 1, 1⟩, ⟨2, 2, 1, 1, 1, 1⟩, ⟨3, 1, 2, 1, 1, 1⟩, ⟨3, 2, 2, 1, 1, 1⟩, ⟨3, 2, 2, 2, 1, 1⟩, ⟨3, 3, 2, 2, 1, 1⟩, ⟨4, 1, 3, 1, 1, 1⟩, ⟨4, 2, 3, 1, 1, 1⟩, ⟨4, 2, 3, 2, 1, 1⟩, ⟨4, 3, 3, 2, 1, 1⟩, ⟨4, 3, 3, 3, 1, 1⟩, ⟨4, 4, 3, 3, 1, 1⟩] := by rfl
      rw [e']
      refine ⟨by decide, fun k hk => ?_⟩
      simp only [List.mem_cons, List.not_mem_nil, or_false] at hk
      rcases hk with h | h | h | h | h | h | h | h | h | h | h | h <;> (subst h; unfold ClOk; decide)
    · rw [e]
      have e' : ccl (.word "halved") = [⟨2, 1, 2, 2, 2, 1⟩, ⟨3, 1, 3, 2, 2, 1⟩, ⟨3, 2, 3, 3, 2, 1⟩, ⟨4, 1, 4, 2, 2, 1⟩, ⟨4, 2, 4, 3, 2, 1⟩, ⟨4, 3, 4, 4, 2, 1⟩] := by rfl
      rw [e']
      refine ⟨by decide, fun k hk => ?_⟩
      simp only [List.mem_cons, List.not_mem_nil, or_false] at hk
      rcases hk with h | h | h | h | h | h <;> (subst h; unfold ClOk; decide)
theorem rcpI_len (o : Str) (r : Rcp) (i : Nat) : (rcpI o r i).length ≤ 2 := by unfold rcpI; split <;> simp
theorem flat_len {α β : Type} {f : α → List β} {m : Nat} : ∀ {l : List α}, (∀ a ∈ l, (f a).length ≤ m) → (l.flatMap f).length ≤ l.length * m
  | [], _ => by simp
  | a :: l, h => by
    rw [List.flatMap_cons, List.length_append, List.length_cons, Nat.succ_mul]
    have := flat_len (l := l) fun b hb => h b (List.mem_cons_of_mem _ hb)
    have := h a List.mem_cons_self
    omega
theorem rcpN_len (o : Str) (r : Rcp) (n : Nat) : (rcpN o r n).length ≤ n * 2 := by
  have := flat_len (l := List.range n) (f := rcpI o r) (m := 2) fun i _ => rcpI_len o r i
  rwa [List.length_range] at this
theorem rcp_am6 {r : Rcp} (h : RcpOk r) : r.am.length ≤ 6 := by rw [h.2.1]; exact h.1.2.1.2.1
theorem rcps_len {o : Str} {rs : List Rcp} (h : ∀ r ∈ rs, RcpOk r) (h6 : rs.length ≤ 6) : (rs.flatMap fun r => rcpN o r r.am.length).length ≤ 72 := by
  have := flat_len (l := rs) (f := fun r => rcpN o r r.am.length) (m := 12) fun r hr => by
    have := rcpN_len o r r.am.length
    have := rcp_am6 (h r hr)
    omega
  omega
theorem rooms_len {c : Cus} {o : Str} {rs : List Rcp} (hc : CusOk c) (h : ∀ r ∈ rs, RcpOk r) (h6 : rs.length ≤ 6) : (rooms c o rs).length ≤ 90 := by
  unfold rooms
  rw [List.length_append, List.length_map]
  have := (ccl_ok hc).1
  have := rcps_len (o := o) h h6
  omega
theorem rcp_amts {r : Rcp} (h : RcpOk r) {v : Int} (hv : 0 ≤ v ∧ v ≤ 100000000) : Fs 28 ⟨v + r.play, facs []⟩ ∧ Fs 28 ⟨r.play - v, facs []⟩ := by
  obtain ⟨_, _, _, h1, h2⟩ := h
  exact ⟨cst_fs (by omega), cst_fs (by omega)⟩
theorem rcpI_ok {o : Str} {r : Rcp} (h : RcpOk r) {i : Nat} : ∀ f ∈ rcpI o r i, FrmOk f := by
  intro f hf
  unfold rcpI at hf
  split at hf
  · cases hf
  · rename_i v e
    have hv : 0 ≤ v ∧ v ≤ 100000000 := by
      rw [List.getD_eq_getElem?_getD] at e
      cases e2 : r.am[i]? with
      | none => rw [e2] at e; cases e
      | some x => rw [e2] at e; have e : x = some v := e; exact h.2.2.1 x (List.mem_of_getElem? e2) v e
    obtain ⟨a1, a2⟩ := rcp_amts h hv
    simp only [List.mem_cons, List.not_mem_nil, or_false] at hf
    rcases hf with e | e
    · rw [e]; exact jn_ok a1 (ffrm_fs h.1 _ _) (facs_len _) (facs_len _) (Or.inr rfl)
    · rw [e]; exact jn_ok a2 (ffrm_fs h.1 _ _) (facs_len _) (facs_len _) (Or.inl rfl)
theorem rooms_ok {c : Cus} {o : Str} {rs : List Rcp} (hc : CusOk c) (h : ∀ r ∈ rs, RcpOk r) : ∀ f ∈ rooms c o rs, FrmOk f := by
  intro f hf
  unfold rooms at hf
  rcases List.mem_append.mp hf with h1 | h1
  · obtain ⟨k, hk, rfl⟩ := List.mem_map.mp h1
    exact clF_ok ((ccl_ok hc).2 k hk)
  · obtain ⟨r, hr, h2⟩ := List.mem_flatMap.mp h1
    obtain ⟨i, _, h3⟩ := List.mem_flatMap.mp h2
    exact rcpI_ok (h r hr) f h3
def pr_room_forms (K : PySem.W.Frag) : PrP := fun ds Q => ∃ (c : Cus) (o : Str) (rs : List Rcp), ds = [dcus c, .str o, .tup (rs.map (drcp K))] ∧ CusOk c ∧ rs.length ≤ 6 ∧ (∀ r ∈ rs, RcpOk r) ∧ Q (.lst ((rooms c o rs).map dfrm))
theorem len_room_forms {ds Q} (p : pr_room_forms K ds Q) : ds.length = 3 := by obtain ⟨_, _, _, rfl, _⟩ := p; rfl
theorem sc_room_forms : FnScope ["custom", "order", "receipts", "found", "clause", "ride", "amounts", "play", "rider", "amount", "fare"] ["custom", "order", "receipts"] (defScope (topS 75)) := ⟨rfl, rfl, rfl, by decide +kernel, rfl, by decide +kernel, by decide +kernel⟩
theorem ok_room_forms (T : Txt K mg base) : Cal P w K mg base 7 "room_forms" ["custom", "order", "receipts"] (spP K (pr_room_forms K)) := by
  refine cal_pure (T.fn "room_forms" 75 (by decide +kernel)) sc_room_forms (fun _ _ _ _ _ _ us hl => match us, hl with | [_, _, _], _ => rfl) (fun ds Q p => len_room_forms p) fun cdv A outer s H f E hr =>
    ⟨_, (pss_cons (ps_setLc (i := 3) (own := [("clause", 4)]) (g := (gName 4)) (tt := tYes) rfl sc_room_forms.nd rfl rfl (sw_true rfl rfl rfl (by decide +kernel)) (pi_tupK (K := K) rfl (pe_cal (ok_clauses_of (K := K) T) (hr.mono (by decide)) (by rfl) (pa_cons (pv 0) pa_nil))) (blkOk_by (own := [("clause", 4)]) (N := ["custom", "order", "receipts", "found", "clause", "ride", "amounts", "play", "rider", "amount", "fare"]) (sc := (defScope (topS 75))) (by decide +kernel)) (fun _ _ _ _ _ => (pg_name (i := 4) sc_room_forms.nd rfl (Or.inl rfl))) (fun _ _ _ _ _ => pts_nil) (fun _ _ _ _ _ => (pe_cal (ok_clause_form (K := K) T) (hr.mono (by decide)) (by rfl) (pa_cons (pv 4) pa_nil))))
      (pss_cons (ps_for PassesOwn.never rfl (pi_tupK (K := K) rfl (pv 2)) (pg_tupK (K := K) (n := 3) rfl rfl (pgs_cons (pg_name (i := 5) sc_room_forms.nd rfl (.inl rfl)) (pgs_cons (pg_name (i := 6) sc_room_forms.nd rfl (.inl rfl)) (pgs_cons (pg_name (i := 7) sc_room_forms.nd rfl (.inl rfl)) pgs_nil))))
      (pss_one (ps_for PassesOwn.never rfl (pi_enumTK (K := K) rfl (by rfl) (T.free "enumerate" (by decide +kernel)) (pa_cons (pv 6) pa_nil)) (pg_tupK (K := K) (n := 2) rfl rfl (pgs_cons (pg_name (i := 8) sc_room_forms.nd rfl (.inl rfl)) (pgs_cons (pg_name (i := 9) sc_room_forms.nd rfl (.inl rfl)) pgs_nil)))
      (pss_one (ps_if (pt_cmpR op_notN (pv 9) pe_non (nomark _)) (pss_cons (ps_set (i := 10) sc_room_forms.nd rfl (.inl rfl) (pe_cal (ok_fare_form (K := K) T) (hr.mono (by decide)) (by rfl) (pa_cons (pv 5) (pa_cons (pv 1) (pa_cons (pv 8) pa_nil)))))
      (pss_cons (ps_expr (pe_appK (K := K) rfl (pv 3) (pe_cal (ok_joined (K := K) T) (hr.mono (by decide)) (by rfl) (pa_cons (pe_cal (ok_form_of (K := K) T) (hr.mono (by decide)) (by rfl) (pa_cons (pe_op op_add (pv 9) (pv 7)) (pa_cons (pe_lst pa_nil) pa_nil))) (pa_cons pe_int (pa_cons (pv 10) (pa_cons (pe_un un_neg pe_int) pa_nil)))))))
      (pss_one (ps_expr (pe_appK (K := K) rfl (pv 3) (pe_cal (ok_joined (K := K) T) (hr.mono (by decide)) (by rfl) (pa_cons (pe_cal (ok_form_of (K := K) T) (hr.mono (by decide)) (by rfl) (pa_cons (pe_op op_sub (pv 7) (pv 9)) (pa_cons (pe_lst pa_nil) pa_nil))) (pa_cons pe_int (pa_cons (pv 10) (pa_cons pe_int pa_nil)))))))))) pss_nil)))))
      (pss_one (ps_ret (pv 3))))), fun b ds Q p => ?_⟩
  obtain ⟨c, o, rs, rfl, hc, hl, hr1, q⟩ := p
  simp only [startD, List.map_nil]
  repeat walk_at "d"
  refine de_lcMO (by walk_at "w") (by walk_at "w") ?_
  refine di_tup ?_
  repeat walk_at "d"
  refine ⟨c, rfl, ?_⟩
  refine ⟨_, rfl, by rw [List.length_map]; have := (ccl_ok hc).1; omega, fun _ _ => trivial, fun i => dfrm (clF ((ccl c).getD i ⟨1, 1, 1, 1, 1, 1⟩)), ?_, ?_⟩
  · intro b i x hx
    obtain ⟨k, hk, rfl⟩ := map_get hx
    dsimp only [wipeD, List.map, List.set]
    rw [show (ccl c).getD i ⟨1, 1, 1, 1, 1, 1⟩ = k by rw [List.getD_eq_getElem?_getD, hk]; rfl]
    repeat walk_at "d"
    refine ⟨k, rfl, (ccl_ok hc).2 k (List.mem_of_getElem? hk), ?_⟩
    exact ⟨rfl, rfl⟩
  · intro a ha
    have e0 : (List.range ((ccl c).map dcl).length).map (fun i => dfrm (clF ((ccl c).getD i ⟨1, 1, 1, 1, 1, 1⟩))) = ((ccl c).map clF).map dfrm := by
      rw [List.length_map, List.map_map]
      apply List.ext_getElem (by simp)
      intro i h1 h2
      simp only [List.length_map, List.length_range] at h1
      simp [List.getD_eq_getElem?_getD, List.getElem?_eq_getElem h1]
    rw [e0]
    repeat walk_at "d"
    refine dx_for (di_tup ?_)
    repeat walk_at "d"
    refine ⟨_, rfl, fun n d => ∃ x y z u v w t ow, d = ⟨[some (dcus c), some (.str o), some (.tup (rs.map (drcp K))), some (.ptr a), x, y, z, u, v, w, t], ow⟩ ∧ ow a = some (.lst ((rooms c o (rs.take n)).map dfrm)), ?_, fun _ _ _ _ => trivial, ?_, ?_⟩
    · refine ⟨_, _, _, _, _, _, _, _, rfl, ?_⟩
      rw [Own.put_same]
      unfold rooms
      rw [List.take_zero, List.flatMap_nil, List.append_nil]
    · rintro n x d hx ⟨u1, u2, u3, u4, u5, u6, u7, ow, rfl, ho⟩
      obtain ⟨r, hr', rfl⟩ := map_get hx
      have hrk := hr1 r (List.mem_of_getElem? hr')
      simp only [drcp]
      repeat walk_at "d"
      refine dx_for (di_enumT ?_)
      repeat walk_at "d"
      refine ⟨_, rfl, fun m d => ∃ x y z ow, d = ⟨[some (dcus c), some (.str o), some (.tup (rs.map (drcp K))), some (.ptr a), u1, some (dride K r.ride), some (.tup (r.am.map damt)), some (.int r.play), x, y, z], ow⟩ ∧ ow a = some (.lst ((rooms c o (rs.take n) ++ rcpN o r m).map dfrm)), ?_, fun _ _ _ _ => trivial, ?_, ?_⟩
      · exact ⟨_, _, _, _, rfl, by rw [show rcpN o r 0 = [] from rfl, List.append_nil]; exact ho⟩
      · rintro m x d hx ⟨v1, v2, v3, ow, rfl, ho⟩
        obtain ⟨y, hy, rfl⟩ := enumD_get hx
        obtain ⟨am, ham, rfl⟩ := map_get hy
        have hs : rcpN o r (m + 1) = rcpN o r m ++ rcpI o r m := flat_succ _ m
        have hg : r.am.getD m none = am := by rw [List.getD_eq_getElem?_getD, ham]; rfl
        have hlen : ((rooms c o (rs.take n) ++ rcpN o r m).map dfrm).length < 50000 := by
          rw [List.length_map, List.length_append]
          have h1 := rooms_len (o := o) (rs := rs.take n) hc (fun r hr => hr1 r (List.mem_of_mem_take hr)) (by rw [List.length_take]; omega)
          have h2 := rcpN_len o r m
          have h3 := (List.getElem?_eq_some_iff.mp ham).1
          have h4 := rcp_am6 hrk
          omega
        cases am with
        | none =>
          simp only [damt]
          repeat walk_at "d"
          refine ⟨_, _, _, ow, rfl, ?_⟩
          rw [ho, hs, show rcpI o r m = [] by unfold rcpI; rw [hg], List.append_nil]
        | some v =>
          have hok := hrk.2.2.1 (some v) (List.mem_of_getElem? ham) v rfl
          obtain ⟨f1, f2⟩ := rcp_amts hrk hok
          have f3 := ffrm_fs hrk.1 o m
          simp only [damt]
          repeat walk_at "d"
          refine ⟨r.ride, o, m, rfl, hrk.1, ?_⟩
          repeat walk_at "d"
          refine de_append ?_
          repeat walk_at "d"
          refine ⟨a, _, rfl, ho, ?_⟩
          repeat walk_at "d"
          refine de_lstF ?_
          repeat walk_at "d"
          refine ⟨v + r.play, [], rfl, (fun p hp => by cases hp), ?_⟩
          repeat walk_at "d"
          refine ⟨⟨v + r.play, facs []⟩, ffrm r.ride o m, 1, -1, rfl, f1.up (by decide), f3.up (by decide), by show (facs []).length ≤ 10; rw [facs_len]; decide, Nat.one_lt_two_pow (by decide), Nat.one_lt_two_pow (by decide), ?_⟩
          repeat walk_at "d"
          refine ⟨_, ho, by omega, ?_⟩
          repeat walk_at "d"
          refine de_append ?_
          repeat walk_at "d"
          refine ⟨a, _, rfl, Own.put_same, ?_⟩
          repeat walk_at "d"
          refine de_lstF ?_
          repeat walk_at "d"
          refine ⟨r.play - v, [], rfl, (fun p hp => by cases hp), ?_⟩
          repeat walk_at "d"
          refine ⟨⟨r.play - v, facs []⟩, ffrm r.ride o m, 1, 1, rfl, f2.up (by decide), f3.up (by decide), by show (facs []).length ≤ 10; rw [facs_len]; decide, Nat.one_lt_two_pow (by decide), Nat.one_lt_two_pow (by decide), ?_⟩
          repeat walk_at "d"
          refine ⟨_, Own.put_same, by rw [List.length_append]; simp only [List.length_cons, List.length_nil]; omega, ?_⟩
          refine ⟨_, _, _, _, rfl, ?_⟩
          rw [Own.put_same, hs, show rcpI o r m = [jn ⟨v + r.play, facs []⟩ 1 (ffrm r.ride o m) (-1), jn ⟨r.play - v, facs []⟩ 1 (ffrm r.ride o m) 1] by unfold rcpI; rw [hg], ← List.append_assoc]
          simp only [List.map_append, List.append_assoc, List.map_cons, List.map_nil]
          rfl
      · rintro d ⟨v1, v2, v3, ow, rfl, ho⟩
        rw [enumD_len, List.length_map] at ho
        refine ⟨_, _, _, _, _, _, _, ow, rfl, ?_⟩
        rw [ho]
        unfold rooms
        rw [List.take_add_one, hr', List.flatMap_append, List.append_assoc]
        simp
    · rintro d ⟨u1, u2, u3, u4, u5, u6, u7, ow, rfl, ho⟩
      rw [List.length_map, List.take_length] at ho
      refine dx_frzS (k := 3) (a := a) rfl ho ?_
      repeat walk_at "d"
      exact q
def keepB (fs : List Frm) (t : List (List Rat)) : Bool := fs.all fun f => decide (0 ≤ wrt f t)
theorem keepB_iff {fs : List Frm} {t : List (List Rat)} : keepB fs t = true ↔ Keep fs t := by
  unfold keepB Keep
  rw [List.all_eq_true]
  exact ⟨fun h f hf => of_decide_eq_true (h f hf), fun h f hf => decide_eq_true (h f hf)⟩
def pr_keeps : PrP := fun ds Q => ∃ (t : List (List Rat)) (fs : List Frm), ds = [dtab t, .lst (fs.map dfrm)] ∧ fs.length ≤ 90 ∧ (∀ f ∈ fs, FrmOk f) ∧ TblOk t ∧ SzT 310 t ∧ Q (.bl (keepB fs t))
theorem len_keeps {ds Q} (p : pr_keeps ds Q) : ds.length = 2 := by obtain ⟨_, _, rfl, _⟩ := p; rfl
theorem num_nn' (r : Rat) : decide (0 ≤ r.num) = decide (0 ≤ r) := by
  by_cases h : 0 ≤ r
  · rw [decide_eq_true h, decide_eq_true (Rat.num_nonneg.mpr h)]
  · rw [decide_eq_false h, decide_eq_false fun z => h (Rat.num_nonneg.mp z)]
theorem sc_keeps : FnScope ["table", "forms", "form"] ["table", "forms"] (defScope (topS 77)) := ⟨rfl, rfl, rfl, by decide +kernel, rfl, by decide +kernel, by decide +kernel⟩
theorem ok_keeps (T : Txt K mg base) : Cal P w K mg base 5 "keeps" ["table", "forms"] (spP K pr_keeps) := by
  refine cal_pure (T.fn "keeps" 77 (by decide +kernel)) sc_keeps (fun _ _ _ _ _ _ us hl => match us, hl with | [_, _], _ => rfl) (fun ds Q p => len_keeps p) fun cdv A outer s H f E hr =>
    ⟨_, (pss_one (ps_ret (pe_cbK (r := rAll K) (cr_all rfl) (by decide +kernel) (T.free "all" (by decide +kernel)) (by rfl) (pa_cons (pe_lc (own := [("form", 2)]) (g := (gName 2)) (tt := tYes) rfl sc_keeps.nd (pi_listK (K := K) rfl (pv 1)) (blkOk_by (own := [("form", 2)]) (N := ["table", "forms", "form"]) (sc := (defScope (topS 77))) (by decide +kernel)) (fun _ _ _ _ _ => (pg_name (i := 2) sc_keeps.nd rfl (Or.inl rfl))) (fun _ _ _ _ _ => pts_nil) (fun _ _ _ _ _ => (pe_cmpR op_ge (pe_ixK (K := K) rfl (pe_cal (ok_worth (K := K) T) (hr.mono (by decide)) (by rfl) (pa_cons (pv 2) (pa_cons (pv 0) pa_nil))) pe_int) pe_int (nomark _)))) pa_nil)))), fun b ds Q p => ?_⟩
  obtain ⟨t, fs, rfl, hl, hf, ht, hsz, q⟩ := p
  simp only [startD, List.map_nil]
  repeat walk_at "d"
  refine de_lcM (by walk_at "w") (by walk_at "w") ?_
  refine di_list ?_
  repeat walk_at "d"
  refine ⟨_, rfl, by rw [List.length_map]; omega, fun _ _ => trivial, fun i => .bl (decide (0 ≤ wrt (fs.getD i ⟨0, []⟩) t)), ?_, ?_⟩
  · intro b i x hx
    obtain ⟨f, hf', rfl⟩ := map_get hx
    dsimp only [wipeD, List.map, List.set]
    rw [show fs.getD i ⟨0, []⟩ = f by rw [List.getD_eq_getElem?_getD, hf']; rfl]
    repeat walk_at "d"
    refine ⟨f, t, rfl, hf f (List.mem_of_getElem? hf'), ht, hsz, ?_⟩
    simp only [dq]
    repeat walk_at "d"
    exact ⟨rfl, by rw [num_nn']⟩
  · have e : (List.range (fs.map dfrm).length).map (fun i => Dt.bl (decide (0 ≤ wrt (fs.getD i ⟨0, []⟩) t))) = (fs.map fun f => decide (0 ≤ wrt f t)).map Dt.bl := by
      rw [List.length_map, List.map_map]
      apply List.ext_getElem (by simp)
      intro i h1 h2
      simp only [List.length_map, List.length_range] at h1
      simp [List.getD_eq_getElem?_getD, List.getElem?_eq_getElem h1]
    rw [e]
    repeat walk_at "d"
    refine dc_all ?_
    rw [show (fs.map fun f => decide (0 ≤ wrt f t)).all id = keepB fs t by unfold keepB; rw [List.all_map]; rfl]
    exact q
def farL (r : Rid) (o : Str) (t : List (List Rat)) : List Rat := (List.range r.riders.length).map fun i => wrt (ffrm r o ((i : Nat) : Int)) t
def pr_fares_of (K : PySem.W.Frag) : PrP := fun ds Q => ∃ (r : Rid) (o : Str) (t : List (List Rat)), ds = [dride K r, .str o, dtab t] ∧ RidOk r ∧ TblOk t ∧ SzT 310 t ∧ Q (.tup ((farL r o t).map dq))
theorem len_fares_of {ds Q} (p : pr_fares_of K ds Q) : ds.length = 3 := by obtain ⟨_, _, _, rfl, _⟩ := p; rfl
theorem sc_fares_of : FnScope ["ride", "order", "table", "rider"] ["ride", "order", "table"] (defScope (topS 78)) := ⟨rfl, rfl, rfl, by decide +kernel, rfl, by decide +kernel, by decide +kernel⟩
theorem ok_fares_of (T : Txt K mg base) : Cal P w K mg base 7 "fares_of" ["ride", "order", "table"] (spP K (pr_fares_of K)) := by
  refine cal_pure (T.fn "fares_of" 78 (by decide +kernel)) sc_fares_of (fun _ _ _ _ _ _ us hl => match us, hl with | [_, _, _], _ => rfl) (fun ds Q p => len_fares_of p) fun cdv A outer s H f E hr =>
    ⟨_, (pss_one (ps_ret (pe_ctK (r := DL.rTupleOf K) call_tuple_of' (by decide +kernel) (T.free "tuple" (by decide +kernel)) (by rfl) (pa_cons (pe_lc (own := [("rider", 3)]) (g := (gName 3)) (tt := tYes) rfl sc_fares_of.nd (pi_range1 (by rfl) (T.free "range" (by decide +kernel)) (pa_cons (pe_cbK (r := rLenOwn (He.ga K "Ride") (spP K (pr_Ride___len__ K))) (cr_lenOwnK (K := K) rfl (ok_Ride___len__ (K := K) T) (hr.mono (by decide))) (by decide +kernel) (T.free "len" (by decide +kernel)) (by rfl) (pa_cons (pv 0) pa_nil)) pa_nil)) (blkOk_by (own := [("rider", 3)]) (N := ["ride", "order", "table", "rider"]) (sc := (defScope (topS 78))) (by decide +kernel)) (fun _ _ _ _ _ => (pg_name (i := 3) sc_fares_of.nd rfl (Or.inl rfl))) (fun _ _ _ _ _ => pts_nil) (fun _ _ _ _ _ => (pe_cal (ok_worth (K := K) T) (hr.mono (by decide)) (by rfl) (pa_cons (pe_cal (ok_fare_form (K := K) T) (hr.mono (by decide)) (by rfl) (pa_cons (pv 0) (pa_cons (pv 1) (pa_cons (pv 3) pa_nil)))) (pa_cons (pv 2) pa_nil))))) pa_nil)))), fun b ds Q p => ?_⟩
  obtain ⟨r, o, t, rfl, hr1, ht, hsz, q⟩ := p
  simp only [startD, List.map_nil]
  repeat walk_at "d"
  refine de_lcM (by walk_at "w") (by walk_at "w") ?_
  refine di_rng1 ?_
  repeat walk_at "d"
  refine dc_lenOwn ?_
  refine ⟨r, rfl, r.riders.length, rfl, by have := hr1.2.1.2.1; omega, ?_⟩
  repeat walk_at "d"
  refine ⟨_, rfl, by omega, by have := hr1.2.1.2.1; omega, by rw [rangeD_len]; have := hr1.2.1.2.1; omega, fun _ _ => trivial, fun i => dq (wrt (ffrm r o ((i : Nat) : Int)) t), ?_, ?_⟩
  · intro b i x hx
    obtain ⟨rfl, hi⟩ := rangeD_get hx
    dsimp only [wipeD, List.map, List.set]
    repeat walk_at "d"
    refine ⟨r, o, _, rfl, hr1, ?_⟩
    repeat walk_at "d"
    refine ⟨_, t, rfl, ffrm_ok hr1 o _, ht, hsz, ?_⟩
    refine ⟨rfl, ?_⟩
    rw [Int.zero_add]
  · rw [rangeD_len, show ((r.riders.length : Nat) : Int).toNat = r.riders.length by omega]
    rw [show (List.range r.riders.length).map (fun i => dq (wrt (ffrm r o ((i : Nat) : Int)) t)) = (farL r o t).map dq by unfold farL; rw [List.map_map]; rfl]
    repeat walk_at "d"
    exact q
def pr_fares (K : PySem.W.Frag) : PrP := fun ds Q => ∃ (r : Rid) (o : Str) (t : List (List Rat)), ds = [dride K r, .str o, dtab t] ∧ RidOk r ∧ OrdOk o ∧ TblOk t ∧ SzT 310 t ∧ Q (.tup ((farL r o t).map dq))
theorem len_fares {ds Q} (p : pr_fares K ds Q) : ds.length = 3 := by obtain ⟨_, _, _, rfl, _⟩ := p; rfl
theorem sc_fares : FnScope ["ride", "order", "table"] ["ride", "order", "table"] (defScope (topS 79)) := ⟨rfl, rfl, rfl, by decide +kernel, rfl, by decide +kernel, by decide +kernel⟩
theorem ok_fares (T : Txt K mg base) : Cal P w K mg base 8 "fares" ["ride", "order", "table"] (spP K (pr_fares K)) := by
  refine cal_pure (T.fn "fares" 79 (by decide +kernel)) sc_fares (fun _ _ _ _ _ _ us hl => match us, hl with | [_, _, _], _ => rfl) (fun ds Q p => len_fares p) fun cdv A outer s H f E hr =>
    ⟨_, (pss_cons (ps_expr (pe_cal (ok_check_ride (K := K) T) (hr.mono (by decide)) (by rfl) (pa_cons (pv 0) pa_nil)))
      (pss_cons (ps_expr (pe_cal (ok_check_order (K := K) T) (hr.mono (by decide)) (by rfl) (pa_cons (pv 1) pa_nil)))
      (pss_cons (ps_expr (pe_cal (ok_check_table (K := K) T) (hr.mono (by decide)) (by rfl) (pa_cons (pv 2) pa_nil)))
      (pss_one (ps_ret (pe_cal (ok_fares_of (K := K) T) (hr.mono (by decide)) (by rfl) (pa_cons (pv 0) (pa_cons (pv 1) (pa_cons (pv 2) pa_nil))))))))), fun b ds Q p => ?_⟩
  obtain ⟨r, o, t, rfl, hr1, ho, ht, hsz, q⟩ := p
  simp only [startD, List.map_nil]
  repeat walk_at "d"
  refine ⟨r, rfl, ?_⟩
  repeat walk_at "d"
  refine ⟨o, rfl, ho, ?_⟩
  repeat walk_at "d"
  refine ⟨t, rfl, ht, hsz, ?_⟩
  repeat walk_at "d"
  refine ⟨r, o, t, rfl, hr1, ht, hsz, ?_⟩
  exact q
def pr_fits (K : PySem.W.Frag) : PrP := fun ds Q => ∃ (t : List (List Rat)) (c : Cus) (o : Str) (rs : List Rcp), ds = [dtab t, dcus c, .str o, .tup (rs.map (drcp K))] ∧ TblOk t ∧ SzT 310 t ∧ CusOk c ∧ OrdOk o ∧ rs.length ≤ 6 ∧ (∀ r ∈ rs, RcpOk r) ∧ Q (.bl (keepB (rooms c o rs) t))
theorem len_fits {ds Q} (p : pr_fits K ds Q) : ds.length = 4 := by obtain ⟨_, _, _, _, rfl, _⟩ := p; rfl
theorem sc_fits : FnScope ["table", "custom", "order", "receipts"] ["table", "custom", "order", "receipts"] (defScope (topS 81)) := ⟨rfl, rfl, rfl, by decide +kernel, rfl, by decide +kernel, by decide +kernel⟩
theorem ok_fits (T : Txt K mg base) : Cal P w K mg base 8 "fits" ["table", "custom", "order", "receipts"] (spP K (pr_fits K)) := by
  refine cal_pure (T.fn "fits" 81 (by decide +kernel)) sc_fits (fun _ _ _ _ _ _ us hl => match us, hl with | [_, _, _, _], _ => rfl) (fun ds Q p => len_fits p) fun cdv A outer s H f E hr =>
    ⟨_, (pss_cons (ps_expr (pe_cal (ok_check_table (K := K) T) (hr.mono (by decide)) (by rfl) (pa_cons (pv 0) pa_nil)))
      (pss_cons (ps_expr (pe_cal (ok_check_known (K := K) T) (hr.mono (by decide)) (by rfl) (pa_cons (pv 1) (pa_cons (pv 2) (pa_cons (pv 3) pa_nil)))))
      (pss_one (ps_ret (pe_cal (ok_keeps (K := K) T) (hr.mono (by decide)) (by rfl) (pa_cons (pv 0) (pa_cons (pe_cal (ok_room_forms (K := K) T) (hr.mono (by decide)) (by rfl) (pa_cons (pv 1) (pa_cons (pv 2) (pa_cons (pv 3) pa_nil)))) pa_nil))))))), fun b ds Q p => ?_⟩
  obtain ⟨t, c, o, rs, rfl, ht, hsz, hc, ho, hl, hr1, q⟩ := p
  simp only [startD, List.map_nil]
  repeat walk_at "d"
  refine ⟨t, rfl, ht, hsz, ?_⟩
  repeat walk_at "d"
  refine ⟨c, o, rs, rfl, hc, ho, hl, hr1, ?_⟩
  repeat walk_at "d"
  refine ⟨c, o, rs, rfl, hc, hl, hr1, ?_⟩
  repeat walk_at "d"
  refine ⟨t, _, rfl, rooms_len hc hr1 hl, rooms_ok hc hr1, ht, hsz, ?_⟩
  exact q
end
end Cab
/-! W6a -/
set_option Elab.async false
set_option linter.all false
set_option maxRecDepth 100000
set_option maxHeartbeats 4000000
namespace Cab
open PySem PySem.Spec PyProof.Rows L2 DL
local macro_rules | `(tactic| walk_at "d") => `(tactic| first
  | with_reducible refine dx_seq ?_ | with_reducible refine dx_ret ?_ | with_reducible refine dx_asg ?_ | ((with_reducible refine dg_name ?_); dsimp only [List.set])
  | with_reducible refine de_op ?_ | ((with_reducible refine' de_var ?h1 ?_); (case h1 => exact rfl)) | with_reducible refine de_int ?_ | with_reducible refine da_cons ?_ | with_reducible refine da_nil ?_
  | ((with_reducible refine' dr_xT ?h1 ?_); (case h1 => exact rfl)) | ((with_reducible refine' dr_xL ?h1 ?_); (case h1 => exact rfl)) | with_reducible refine dr_I0 ?_ | with_reducible refine dr_I0b ?_ | with_reducible refine de_callP ?_ | with_reducible refine de_callA ?_
  | with_reducible refine de_cb ?_ | with_reducible refine de_un ?_ | with_reducible refine du_I ?_ | with_reducible refine de_bl ?_ | with_reducible refine de_non ?_ | with_reducible refine de_str ?_ | with_reducible refine de_ty ?_
  | with_reducible refine dr_eqI ?_ | with_reducible refine dr_neI ?_ | with_reducible refine dr_eqS ?_ | with_reducible refine dr_isN ?_ | with_reducible refine dr_notN ?_
  | with_reducible refine dt_and ?_ | with_reducible refine dt_or ?_ | with_reducible refine dt_not ?_ | with_reducible refine de_if ?_ | with_reducible refine de_andV ?_ | with_reducible refine de_orV ?_ | with_reducible refine de_notV ?_
  | ((with_reducible refine dt_test ?_)) | ((with_reducible refine dt_B ?_))
  | with_reducible refine dx_par' ?_ | with_reducible refine dx_par3' ?_ | with_reducible refine ex_bl ?_ | with_reducible refine ex_int ?_ | with_reducible refine isi_int ?_ | with_reducible refine isi_intB ?_ | with_reducible refine isi_tup ?_ | with_reducible refine isi_tupS ?_ | with_reducible refine isi_str ?_ | with_reducible refine de_chain ?_ | with_reducible refine dt_chain ?_ | with_reducible refine iteT ?_ | with_reducible refine iteF ?_ | with_reducible refine dx_if ?_ | with_reducible refine dx_drop ?_ | with_reducible refine dx_cont ?_ | with_reducible refine dx_next ?_
  | with_reducible refine dc_abs ?_ | with_reducible refine dc_lenT ?_ | with_reducible refine dc_lenL ?_ | with_reducible refine dc_int ?_ | with_reducible refine dc_max2 ?_ | with_reducible refine dc_min2 ?_ | with_reducible refine dc_tupL ?_
  | with_reducible refine de_fldF ?_ ?_ ?_ | with_reducible refine de_tup ?_ | ((with_reducible refine len_ok ?h1 ?_); (case h1 => exact rfl))
  | ((with_reducible refine iteT' ?h1 ?_); (case h1 => rfl)) | ((with_reducible refine iteF' ?h1 ?_); (case h1 => rfl))
  | with_reducible refine ex_int2 ?_ | ((with_reducible refine' dg_tup ?h1 ?_); (case h1 => rfl)) | with_reducible refine dgs_cons ?_ | with_reducible refine dgs_nil ?_ | with_reducible refine dc_lenX ?_ | with_reducible refine dr_inX ?_
  | dsimp only [List.set])
/-- a comprehension's targets -/
local macro_rules | `(tactic| walk_at "w") => `(tactic| repeat first
  | exact wp_name (by simp) | exact mo_name | exact wps_nil | exact mos_nil
  | refine wp_tup ?_ | refine wps_cons ?_ ?_ ?_ ?_ | refine mo_tup ?_ | refine mos_cons ?_ ?_)
/-- ends that are told by a value: a bool, a pair -/
local macro_rules | `(tactic| walk_at "e") => `(tactic| first
  | walk_at "d"
  | ((with_reducible refine Exists.intro _ (And.intro rfl ?_))))
section
variable {P : Program} {w : World} {K : PySem.W.Frag} {mg : Str → Option Value} {base : Heap}
/-! ### bounds -/
def pr_nothing : PrP := fun ds Q => ds = [] ∧ Q (dfrm ⟨0, facs []⟩)
theorem len_nothing {ds Q} (p : pr_nothing ds Q) : ds.length = 0 := by obtain ⟨rfl, _⟩ := p; rfl
theorem sc_nothing : FnScope [] [] (defScope (topS 83)) := ⟨rfl, rfl, rfl, by decide +kernel, rfl, by decide +kernel, by decide +kernel⟩
theorem ok_nothing (T : Txt K mg base) : Cal P w K mg base 3 "nothing" [] (spP K pr_nothing) := by
  refine cal_pure (T.fn "nothing" 83 (by decide +kernel)) sc_nothing (fun _ _ _ _ _ _ us hl => match us, hl with | [], _ => rfl) (fun ds Q p => len_nothing p) fun cdv A outer s H f E hr =>
    ⟨_, (pss_one (ps_ret (pe_cal (ok_form_of (K := K) T) (hr.mono (by decide)) (by rfl) (pa_cons pe_int (pa_cons (pe_lst pa_nil) pa_nil))))), fun b ds Q p => ?_⟩
  obtain ⟨rfl, q⟩ := p
  simp only [startD, List.map_nil]
  repeat walk_at "d"
  refine de_lstF ?_
  repeat walk_at "d"
  refine ⟨0, [], rfl, (fun p hp => by cases hp), ?_⟩
  exact q
def pr_answer_for (K : PySem.W.Frag) : PrP := fun ds Q => ∃ (aim : Frm) (c : Cus) (o : Str) (rs : List Rcp), ds = [dfrm aim, dcus c, .str o, .tup (rs.map (drcp K))] ∧ FrmOk aim ∧ CusOk c ∧ rs.length ≤ 6 ∧ (∀ r ∈ rs, RcpOk r) ∧ Sol1 K (rooms c o rs) aim Q
theorem len_answer_for {ds Q} (p : pr_answer_for K ds Q) : ds.length = 4 := by obtain ⟨_, _, _, _, rfl, _⟩ := p; rfl
theorem sc_answer_for : FnScope ["aim", "custom", "order", "receipts"] ["aim", "custom", "order", "receipts"] (defScope (topS 84)) := ⟨rfl, rfl, rfl, by decide +kernel, rfl, by decide +kernel, by decide +kernel⟩
theorem ok_answer_for (T : Txt K mg base) : Cal P w K mg base 8 "answer_for" ["aim", "custom", "order", "receipts"] (spP K (pr_answer_for K)) := by
  refine cal_pure (T.fn "answer_for" 84 (by decide +kernel)) sc_answer_for (fun _ _ _ _ _ _ us hl => match us, hl with | [_, _, _, _], _ => rfl) (fun ds Q p => len_answer_for p) fun cdv A outer s H f E hr =>
    ⟨_, (pss_one (ps_ret (pe_cal (ok_solved (K := K) T) (hr.mono (by decide)) (by rfl) (pa_cons (pe_cal (ok_room_forms (K := K) T) (hr.mono (by decide)) (by rfl) (pa_cons (pv 1) (pa_cons (pv 2) (pa_cons (pv 3) pa_nil)))) (pa_cons (pv 0) pa_nil))))), fun b ds Q p => ?_⟩
  obtain ⟨aim, c, o, rs, rfl, ha, hc, hl, hr1, q⟩ := p
  simp only [startD, List.map_nil]
  repeat walk_at "d"
  refine ⟨c, o, rs, rfl, hc, hl, hr1, ?_⟩
  repeat walk_at "d"
  refine ⟨_, aim, rfl, rooms_len hc hr1 hl, rooms_ok hc hr1, ha, ?_⟩
  exact q
theorem fld_greatest (T : Txt K mg base) {b : Bs} {te : TE} {d : DL.St} {Q : Dt → DL.St → Prop} (h : DE K b te d fun x d1 => ∃ g bb ff n, x = ans K g bb ff n ∧ Q g d1) : DE K b (tFld K te "greatest") d Q :=
  de_fldF (T.cls "Answer" (by decide +kernel)).1 (T.noat "Answer" "greatest" (by decide +kernel)) fun F σ H R P kk => h F σ H R P fun v H' F' x d' s R' r ⟨_, _, _, _, e, q⟩ => kk v H' F' x d' s R' r ⟨_, _, e, by rfl, q⟩
theorem fld_best (T : Txt K mg base) {b : Bs} {te : TE} {d : DL.St} {Q : Dt → DL.St → Prop} (h : DE K b te d fun x d1 => ∃ g bb ff n, x = ans K g bb ff n ∧ Q bb d1) : DE K b (tFld K te "best") d Q :=
  de_fldF (T.cls "Answer" (by decide +kernel)).1 (T.noat "Answer" "best" (by decide +kernel)) fun F σ H R P kk => h F σ H R P fun v H' F' x d' s R' r ⟨_, _, _, _, e, q⟩ => kk v H' F' x d' s R' r ⟨_, _, e, by rfl, q⟩
/-- some table fits -/
def Some1 (fs : List Frm) : Prop := ∃ t, TblOk t ∧ Keep fs t
/-- the greatest worth -/
def Top (fs : List Frm) (aim : Frm) (g : Rat) : Prop := SzR 400 g ∧ (∃ t, TblOk t ∧ Keep fs t ∧ wrt aim t = g) ∧ ∀ t, TblOk t → Keep fs t → wrt aim t ≤ g
def Low (fs : List Frm) (aim : Frm) (g : Rat) : Prop := SzR 400 g ∧ (∃ t, TblOk t ∧ Keep fs t ∧ wrt aim t = g) ∧ ∀ t, TblOk t → Keep fs t → g ≤ wrt aim t
def pr_check_fare (K : PySem.W.Frag) : PrP := fun ds Q => ∃ (r : Rid) (i : Int) (c : Cus) (o : Str) (rs : List Rcp), ds = [dride K r, .int i, dcus c, .str o, .tup (rs.map (drcp K))] ∧ 0 ≤ i ∧ i < r.riders.length ∧ CusOk c ∧ OrdOk o ∧ rs.length ≤ 6 ∧ (∀ r ∈ rs, RcpOk r) ∧ Q .non
theorem len_check_fare {ds Q} (p : pr_check_fare K ds Q) : ds.length = 5 := by obtain ⟨_, _, _, _, _, rfl, _⟩ := p; rfl
theorem sc_check_fare : FnScope ["ride", "rider", "custom", "order", "receipts"] ["ride", "rider", "custom", "order", "receipts"] (defScope (topS 87)) := ⟨rfl, rfl, rfl, by decide +kernel, rfl, by decide +kernel, by decide +kernel⟩
theorem ok_check_fare (T : Txt K mg base) : Cal P w K mg base 7 "check_fare" ["ride", "rider", "custom", "order", "receipts"] (spP K (pr_check_fare K)) := by
  refine cal_pure (T.fn "check_fare" 87 (by decide +kernel)) sc_check_fare (fun _ _ _ _ _ _ us hl => match us, hl with | [_, _, _, _, _], _ => rfl) (fun ds Q p => len_check_fare p) fun cdv A outer s H f E hr =>
    ⟨_, (pss_cons (ps_expr (pe_cal (ok_check_ride (K := K) T) (hr.mono (by decide)) (by rfl) (pa_cons (pv 0) pa_nil)))
      (pss_cons (ps_expr (pe_cal (ok_check_rider (K := K) T) (hr.mono (by decide)) (by rfl) (pa_cons (pv 1) (pa_cons (pv 0) pa_nil))))
      (pss_one (ps_expr (pe_cal (ok_check_known (K := K) T) (hr.mono (by decide)) (by rfl) (pa_cons (pv 2) (pa_cons (pv 3) (pa_cons (pv 4) pa_nil)))))))), fun b ds Q p => ?_⟩
  obtain ⟨r, i, c, o, rs, rfl, h0, h1, hc, ho, hl, hr1, q⟩ := p
  simp only [startD, List.map_nil]
  repeat walk_at "d"
  refine ⟨r, rfl, ?_⟩
  repeat walk_at "d"
  refine ⟨r, i, rfl, h0, h1, ?_⟩
  repeat walk_at "d"
  refine ⟨c, o, rs, rfl, hc, ho, hl, hr1, ?_⟩
  exact q
def pr_any_table (K : PySem.W.Frag) : PrP := fun ds Q => ∃ (c : Cus) (o : Str) (rs : List Rcp), ds = [dcus c, .str o, .tup (rs.map (drcp K))] ∧ CusOk c ∧ OrdOk o ∧ rs.length ≤ 6 ∧ (∀ r ∈ rs, RcpOk r) ∧ (¬ Some1 (rooms c o rs) → Q .non) ∧ ∀ t, TblOk t → SzT 310 t → Keep (rooms c o rs) t → Q (dtab t)
theorem len_any_table {ds Q} (p : pr_any_table K ds Q) : ds.length = 3 := by obtain ⟨_, _, _, rfl, _⟩ := p; rfl
theorem sc_any_table : FnScope ["custom", "order", "receipts"] ["custom", "order", "receipts"] (defScope (topS 86)) := ⟨rfl, rfl, rfl, by decide +kernel, rfl, by decide +kernel, by decide +kernel⟩
theorem ok_any_table (T : Txt K mg base) : Cal P w K mg base 9 "any_table" ["custom", "order", "receipts"] (spP K (pr_any_table K)) := by
  refine cal_pure (T.fn "any_table" 86 (by decide +kernel)) sc_any_table (fun _ _ _ _ _ _ us hl => match us, hl with | [_, _, _], _ => rfl) (fun ds Q p => len_any_table p) fun cdv A outer s H f E hr =>
    ⟨_, (pss_cons (ps_expr (pe_cal (ok_check_known (K := K) T) (hr.mono (by decide)) (by rfl) (pa_cons (pv 0) (pa_cons (pv 1) (pa_cons (pv 2) pa_nil)))))
      (pss_one (ps_ret (pe_fldK (K := K) rfl (pe_cal (ok_answer_for (K := K) T) (hr.mono (by decide)) (by rfl) (pa_cons (pe_cal0 (ok_nothing (K := K) T) (hr.mono (by decide)) (by rfl)) (pa_cons (pv 0) (pa_cons (pv 1) (pa_cons (pv 2) pa_nil))))))))), fun b ds Q p => ?_⟩
  obtain ⟨c, o, rs, rfl, hc, ho, hl, hr1, q0, q⟩ := p
  simp only [startD, List.map_nil]
  repeat walk_at "d"
  refine ⟨c, o, rs, rfl, hc, ho, hl, hr1, ?_⟩
  repeat walk_at "d"
  refine fld_best T ?_
  repeat walk_at "d"
  refine ⟨rfl, ?_⟩
  repeat walk_at "d"
  refine ⟨_, c, o, rs, rfl, ⟨facs_len _, (cst_fs (by decide)).up (by decide)⟩, hc, hl, hr1, fun l hn => ?_, fun t d l h1 h2 h3 h4 h5 => ?_⟩
  · exact ⟨_, _, _, _, rfl, q0 fun ⟨t, h1, h2⟩ => hn t h1 h2⟩
  · exact ⟨_, _, _, _, rfl, q t h1 h3 h2⟩
theorem jn_neg {f : Frm} (h : FrmOk f) : FrmOk (jn f (-1) ⟨0, facs []⟩ 0) := by
  obtain ⟨l, h1, h2⟩ := h
  refine ⟨by rw [jn_len, l, facs_len]; rfl, ?_, fun x hx => ?_⟩
  · show (-1 * f.num + 0 * 0).natAbs < _
    omega
  · obtain ⟨i, _, rfl⟩ := List.mem_map.mp hx
    have := getD_bd h2 i
    omega
theorem foldl_neg : ∀ (ps : List (Int × Rat)) (s : Rat), (ps.map fun p => (-1 * p.1 + 0 * 0, p.2)).foldl (fun s p => s + ((p.1 : Int) : Rat) * p.2) (-s) = -(ps.foldl (fun s p => s + ((p.1 : Int) : Rat) * p.2) s)
  | [], s => rfl
  | p :: ps, s => by
    rw [List.map_cons, List.foldl_cons, List.foldl_cons, ← foldl_neg ps]
    congr 1
    have : ((-1 * p.1 + 0 * 0 : Int) : Rat) = -(p.1 : Rat) := by
      rw [show (-1 * p.1 + 0 * 0 : Int) = -p.1 by omega, Rat.intCast_neg]
    rw [this]
    grind
theorem wrt_neg {f : Frm} (h : f.fac.length = 10) (t : List (List Rat)) : wrt (jn f (-1) ⟨0, facs []⟩ 0) t = -(wrt f t) := by
  unfold wrt
  have e1 : (jn f (-1) ⟨0, facs []⟩ 0).fac = f.fac.map fun x => -1 * x + 0 * 0 := by
    apply List.ext_getElem (by rw [jn_len, facs_len, List.length_map, h]; rfl)
    intro i h1 h2
    rw [List.length_map] at h2
    have e0 : (facs []).getD i 0 = 0 := by
      show (List.replicate 10 (0 : Int)).getD i 0 = 0
      rw [List.getD_eq_getElem?_getD]
      cases e : (List.replicate 10 (0 : Int))[i]? with
      | none => rfl
      | some y => exact List.eq_of_mem_replicate (List.mem_of_getElem? e)
    simp only [jn, List.getElem_map, List.getElem_range, e0]
    rw [List.getD_eq_getElem?_getD, List.getElem?_eq_getElem h2]
    rfl
  have e2 : (((jn f (-1) ⟨0, facs []⟩ 0).num : Int) : Rat) = -((f.num : Int) : Rat) := by
    show ((-1 * f.num + 0 * 0 : Int) : Rat) = _
    rw [show (-1 * f.num + 0 * 0 : Int) = -f.num by omega, Rat.intCast_neg]
  rw [e1, e2, List.zip_map_left]
  exact foldl_neg _ _
def pr_least_and_greatest (K : PySem.W.Frag) : PrP := fun ds Q => ∃ (aim : Frm) (c : Cus) (o : Str) (rs : List Rcp), ds = [dfrm aim, dcus c, .str o, .tup (rs.map (drcp K))] ∧ FrmOk aim ∧ CusOk c ∧ rs.length ≤ 6 ∧ (∀ r ∈ rs, RcpOk r) ∧ Some1 (rooms c o rs) ∧
  ∀ g h : Rat, Low (rooms c o rs) aim g → Top (rooms c o rs) aim h → Q (.tup [dq g, dq h])
theorem len_least_and_greatest {ds Q} (p : pr_least_and_greatest K ds Q) : ds.length = 4 := by obtain ⟨_, _, _, _, rfl, _⟩ := p; rfl
theorem sc_least_and_greatest : FnScope ["form", "custom", "order", "receipts", "high", "low"] ["form", "custom", "order", "receipts"] (defScope (topS 85)) := ⟨rfl, rfl, rfl, by decide +kernel, rfl, by decide +kernel, by decide +kernel⟩
theorem ok_least_and_greatest (T : Txt K mg base) : Cal P w K mg base 9 "least_and_greatest" ["form", "custom", "order", "receipts"] (spP K (pr_least_and_greatest K)) := by
  refine cal_pure (T.fn "least_and_greatest" 85 (by decide +kernel)) sc_least_and_greatest (fun _ _ _ _ _ _ us hl => match us, hl with | [_, _, _, _], _ => rfl) (fun ds Q p => len_least_and_greatest p) fun cdv A outer s H f E hr =>
    ⟨_, (pss_cons (ps_set (i := 4) sc_least_and_greatest.nd rfl (.inl rfl) (pe_cal (ok_answer_for (K := K) T) (hr.mono (by decide)) (by rfl) (pa_cons (pv 0) (pa_cons (pv 1) (pa_cons (pv 2) (pa_cons (pv 3) pa_nil))))))
      (pss_cons (ps_if (pt_cmpR op_isN (pe_fldK (K := K) rfl (pv 4)) pe_non (nomark _)) (pss_one (ps_ret pe_non)) pss_nil)
      (pss_cons (ps_set (i := 5) sc_least_and_greatest.nd rfl (.inl rfl) (pe_cal (ok_answer_for (K := K) T) (hr.mono (by decide)) (by rfl) (pa_cons (pe_cal (ok_joined (K := K) T) (hr.mono (by decide)) (by rfl) (pa_cons (pv 0) (pa_cons (pe_un un_neg pe_int) (pa_cons (pe_cal0 (ok_nothing (K := K) T) (hr.mono (by decide)) (by rfl)) (pa_cons pe_int pa_nil))))) (pa_cons (pv 1) (pa_cons (pv 2) (pa_cons (pv 3) pa_nil))))))
      (pss_one (ps_ret (pe_tup (pa_cons (pe_cal (ok_fraction (K := K) T) (hr.mono (by decide)) (by rfl) (pa_cons (pe_un un_neg (pe_ixK (K := K) rfl (pe_fldK (K := K) rfl (pv 5)) pe_int)) (pa_cons (pe_ixK (K := K) rfl (pe_fldK (K := K) rfl (pv 5)) pe_int) pa_nil))) (pa_cons (pe_fldK (K := K) rfl (pv 4)) pa_nil)))))))), fun b ds Q p => ?_⟩
  obtain ⟨aim, c, o, rs, rfl, ha, hc, hl, hr1, hs, q⟩ := p
  simp only [startD, List.map_nil]
  repeat walk_at "d"
  refine ⟨aim, c, o, rs, rfl, ha, hc, hl, hr1, fun l hn => ?_, fun t d l h1 h2 h3 h4 h5 => ?_⟩
  · obtain ⟨t, h1, h2⟩ := hs
    exact (hn t h1 h2).elim
  repeat walk_at "d"
  refine fld_greatest T ?_
  repeat walk_at "d"
  refine ⟨_, _, _, _, rfl, ?_⟩
  simp only [dq]
  repeat walk_at "d"
  refine ⟨rfl, ?_⟩
  repeat walk_at "d"
  refine ⟨aim, ⟨0, facs []⟩, -1, 0, rfl, ha.2.up (by decide), (cst_fs (n := 0) (by decide)).up (by decide), by rw [ha.1]; decide, Nat.one_lt_two_pow (by decide), Nat.two_pow_pos _, ?_⟩
  repeat walk_at "d"
  refine ⟨_, c, o, rs, rfl, jn_neg ha, hc, hl, hr1, fun l hn => ?_, fun t2 d2 l2 k1 k2 k3 k4 k5 => ?_⟩
  · obtain ⟨t, h1, h2⟩ := hs
    exact (hn t h1 h2).elim
  repeat walk_at "d"
  refine fld_greatest T ?_
  repeat walk_at "d"
  refine ⟨_, _, _, _, rfl, ?_⟩
  simp only [dq]
  repeat walk_at "d"
  refine fld_greatest T ?_
  repeat walk_at "d"
  refine ⟨_, _, _, _, rfl, ?_⟩
  repeat walk_at "d"
  refine ⟨_, _, rfl, ?_, ?_, ?_⟩
  · have := Rat.den_pos (wrt (jn aim (-1) ⟨0, facs []⟩ 0) t2); omega
  · have h := k4.2
    rw [Int.natAbs_natCast]
    exact Nat.lt_of_lt_of_le h (Nat.pow_le_pow_right (by decide) (by decide))
  repeat walk_at "d"
  refine fld_greatest T ?_
  repeat walk_at "d"
  refine ⟨_, _, _, _, rfl, ?_⟩
  repeat walk_at "d"
  have hw := fun t => wrt_neg (f := aim) ha.1 t
  have e1 : Rat.divInt (-(wrt (jn aim (-1) ⟨0, facs []⟩ 0) t2).num) ((wrt (jn aim (-1) ⟨0, facs []⟩ 0) t2).den : Int) = wrt aim t2 := by
    rw [← Rat.neg_num, ← Rat.neg_den, Rat.num_divInt_den, hw, Rat.neg_neg]
  rw [e1]
  have sz : SzR 400 (wrt aim t2) := by
    have k := k4
    rw [hw] at k
    exact ⟨by have := k.1; rw [Rat.neg_num, Int.natAbs_neg] at this; exact this, by have := k.2; rw [Rat.neg_den] at this; exact this⟩
  refine q _ _ ⟨sz, ⟨t2, k1, k2, rfl⟩, fun t' a1 a2 => ?_⟩ ⟨h4, ⟨t, h1, h2, rfl⟩, h5⟩
  have := k5 t' a1 a2
  rw [hw, hw] at this
  grind
end
end Cab
/-! W6b -/
set_option Elab.async false
set_option linter.all false
set_option maxRecDepth 100000
set_option maxHeartbeats 4000000
namespace Cab
open PySem PySem.Spec PyProof.Rows L2 DL
local macro_rules | `(tactic| walk_at "d") => `(tactic| first
  | with_reducible refine dx_seq ?_ | with_reducible refine dx_ret ?_ | with_reducible refine dx_asg ?_ | ((with_reducible refine dg_name ?_); dsimp only [List.set])
  | with_reducible refine de_op ?_ | ((with_reducible refine' de_var ?h1 ?_); (case h1 => exact rfl)) | with_reducible refine de_int ?_ | with_reducible refine da_cons ?_ | with_reducible refine da_nil ?_
  | ((with_reducible refine' dr_xT ?h1 ?_); (case h1 => exact rfl)) | ((with_reducible refine' dr_xL ?h1 ?_); (case h1 => exact rfl)) | with_reducible refine dr_I0 ?_ | with_reducible refine dr_I0b ?_ | with_reducible refine de_callP ?_ | with_reducible refine de_callA ?_
  | with_reducible refine de_cb ?_ | with_reducible refine de_un ?_ | with_reducible refine du_I ?_ | with_reducible refine de_bl ?_ | with_reducible refine de_non ?_ | with_reducible refine de_str ?_ | with_reducible refine de_ty ?_
  | with_reducible refine dr_eqI ?_ | with_reducible refine dr_neI ?_ | with_reducible refine dr_eqS ?_ | with_reducible refine dr_isN ?_ | with_reducible refine dr_notN ?_
  | with_reducible refine dt_and ?_ | with_reducible refine dt_or ?_ | with_reducible refine dt_not ?_ | with_reducible refine de_if ?_ | with_reducible refine de_andV ?_ | with_reducible refine de_orV ?_ | with_reducible refine de_notV ?_
  | ((with_reducible refine dt_test ?_)) | ((with_reducible refine dt_B ?_))
  | with_reducible refine dx_par' ?_ | with_reducible refine dx_par3' ?_ | with_reducible refine ex_bl ?_ | with_reducible refine ex_int ?_ | with_reducible refine isi_int ?_ | with_reducible refine isi_intB ?_ | with_reducible refine isi_tup ?_ | with_reducible refine isi_tupS ?_ | with_reducible refine isi_str ?_ | with_reducible refine de_chain ?_ | with_reducible refine dt_chain ?_ | with_reducible refine iteT ?_ | with_reducible refine iteF ?_ | with_reducible refine dx_if ?_ | with_reducible refine dx_drop ?_ | with_reducible refine dx_cont ?_ | with_reducible refine dx_next ?_
  | with_reducible refine dc_abs ?_ | with_reducible refine dc_lenT ?_ | with_reducible refine dc_lenL ?_ | with_reducible refine dc_int ?_ | with_reducible refine dc_max2 ?_ | with_reducible refine dc_min2 ?_ | with_reducible refine dc_tupL ?_
  | with_reducible refine de_fldF ?_ ?_ ?_ | with_reducible refine de_tup ?_ | ((with_reducible refine len_ok ?h1 ?_); (case h1 => exact rfl))
  | ((with_reducible refine iteT' ?h1 ?_); (case h1 => rfl)) | ((with_reducible refine iteF' ?h1 ?_); (case h1 => rfl))
  | with_reducible refine ex_int2 ?_ | ((with_reducible refine' dg_tup ?h1 ?_); (case h1 => rfl)) | with_reducible refine dgs_cons ?_ | with_reducible refine dgs_nil ?_ | with_reducible refine dc_lenX ?_ | with_reducible refine dr_inX ?_
  | dsimp only [List.set])
/-- a comprehension's targets -/
local macro_rules | `(tactic| walk_at "w") => `(tactic| repeat first
  | exact wp_name (by simp) | exact mo_name | exact wps_nil | exact mos_nil
  | refine wp_tup ?_ | refine wps_cons ?_ ?_ ?_ ?_ | refine mo_tup ?_ | refine mos_cons ?_ ?_)
/-- ends that are told by a value: a bool, a pair -/
local macro_rules | `(tactic| walk_at "e") => `(tactic| first
  | walk_at "d"
  | ((with_reducible refine Exists.intro _ (And.intro rfl ?_))))
section
variable {P : Program} {w : World} {K : PySem.W.Frag} {mg : Str → Option Value} {base : Heap}
/-! ### fares, told -/
def pr_greatest_fare (K : PySem.W.Frag) : PrP := fun ds Q => ∃ (r : Rid) (i : Int) (c : Cus) (o : Str) (rs : List Rcp), ds = [dride K r, .int i, dcus c, .str o, .tup (rs.map (drcp K))] ∧ RidOk r ∧ 0 ≤ i ∧ i < r.riders.length ∧ CusOk c ∧ OrdOk o ∧ rs.length ≤ 6 ∧ (∀ r ∈ rs, RcpOk r) ∧ Some1 (rooms c o rs) ∧ ∀ g, Top (rooms c o rs) (ffrm r o i) g → Q (dq g)
theorem len_greatest_fare {ds Q} (p : pr_greatest_fare K ds Q) : ds.length = 5 := by obtain ⟨_, _, _, _, _, rfl, _⟩ := p; rfl
theorem sc_greatest_fare : FnScope ["ride", "rider", "custom", "order", "receipts"] ["ride", "rider", "custom", "order", "receipts"] (defScope (topS 89)) := ⟨rfl, rfl, rfl, by decide +kernel, rfl, by decide +kernel, by decide +kernel⟩
theorem ok_greatest_fare (T : Txt K mg base) : Cal P w K mg base 9 "greatest_fare" ["ride", "rider", "custom", "order", "receipts"] (spP K (pr_greatest_fare K)) := by
  refine cal_pureD (T.fnd "greatest_fare" 89 (by decide +kernel)) sc_greatest_fare (fun _ _ _ _ _ _ _ us its hl hi => match us, its, hl, hi with | [_, _, _, _, _], [_], _, _ => ⟨_, rfl, rfl⟩) (fun ds Q p => len_greatest_fare p) fun cdv A outer s H f E hr =>
    ⟨_, (pss_cons (ps_expr (pe_cal (ok_check_fare (K := K) T) (hr.mono (by decide)) (by rfl) (pa_cons (pv 0) (pa_cons (pv 1) (pa_cons (pv 2) (pa_cons (pv 3) (pa_cons (pv 4) pa_nil)))))))
      (pss_one (ps_ret (pe_fldK (K := K) rfl (pe_cal (ok_answer_for (K := K) T) (hr.mono (by decide)) (by rfl) (pa_cons (pe_cal (ok_fare_form (K := K) T) (hr.mono (by decide)) (by rfl) (pa_cons (pv 0) (pa_cons (pv 3) (pa_cons (pv 1) pa_nil)))) (pa_cons (pv 2) (pa_cons (pv 3) (pa_cons (pv 4) pa_nil))))))))), fun b ds Q p => ?_⟩
  obtain ⟨r, i, c, o, rs, rfl, hr0, h0, h1, hc, ho, hl, hr1, hs, q⟩ := p
  simp only [startD, List.map_nil]
  repeat walk_at "d"
  refine ⟨r, i, c, o, rs, rfl, h0, h1, hc, ho, hl, hr1, ?_⟩
  repeat walk_at "d"
  refine fld_greatest T ?_
  repeat walk_at "d"
  refine ⟨r, o, i, rfl, hr0, ?_⟩
  repeat walk_at "d"
  refine ⟨_, c, o, rs, rfl, ffrm_ok hr0 o i, hc, hl, hr1, fun l hn => ?_, fun t d l h1 h2 h3 h4 h5 => ?_⟩
  · obtain ⟨t, h1, h2⟩ := hs
    exact (hn t h1 h2).elim
  · exact ⟨_, _, _, _, rfl, q _ ⟨h4, ⟨t, h1, h2, rfl⟩, h5⟩⟩
def pr_least_fare (K : PySem.W.Frag) : PrP := fun ds Q => ∃ (r : Rid) (i : Int) (c : Cus) (o : Str) (rs : List Rcp), ds = [dride K r, .int i, dcus c, .str o, .tup (rs.map (drcp K))] ∧ RidOk r ∧ 0 ≤ i ∧ i < r.riders.length ∧ CusOk c ∧ OrdOk o ∧ rs.length ≤ 6 ∧ (∀ r ∈ rs, RcpOk r) ∧ Some1 (rooms c o rs) ∧ ∀ g, Low (rooms c o rs) (ffrm r o i) g → Q (dq g)
theorem len_least_fare {ds Q} (p : pr_least_fare K ds Q) : ds.length = 5 := by obtain ⟨_, _, _, _, _, rfl, _⟩ := p; rfl
theorem sc_least_fare : FnScope ["ride", "rider", "custom", "order", "receipts", "found"] ["ride", "rider", "custom", "order", "receipts"] (defScope (topS 88)) := ⟨rfl, rfl, rfl, by decide +kernel, rfl, by decide +kernel, by decide +kernel⟩
theorem ok_least_fare (T : Txt K mg base) : Cal P w K mg base 10 "least_fare" ["ride", "rider", "custom", "order", "receipts"] (spP K (pr_least_fare K)) := by
  refine cal_pureD (T.fnd "least_fare" 88 (by decide +kernel)) sc_least_fare (fun _ _ _ _ _ _ _ us its hl hi => match us, its, hl, hi with | [_, _, _, _, _], [_], _, _ => ⟨_, rfl, rfl⟩) (fun ds Q p => len_least_fare p) fun cdv A outer s H f E hr =>
    ⟨_, (pss_cons (ps_expr (pe_cal (ok_check_fare (K := K) T) (hr.mono (by decide)) (by rfl) (pa_cons (pv 0) (pa_cons (pv 1) (pa_cons (pv 2) (pa_cons (pv 3) (pa_cons (pv 4) pa_nil)))))))
      (pss_cons (ps_set (i := 5) sc_least_fare.nd rfl (.inl rfl) (pe_cal (ok_least_and_greatest (K := K) T) (hr.mono (by decide)) (by rfl) (pa_cons (pe_cal (ok_fare_form (K := K) T) (hr.mono (by decide)) (by rfl) (pa_cons (pv 0) (pa_cons (pv 3) (pa_cons (pv 1) pa_nil)))) (pa_cons (pv 2) (pa_cons (pv 3) (pa_cons (pv 4) pa_nil))))))
      (pss_one (ps_ret (pe_ifExp (pt_cmpR op_isN (pv 5) pe_non (nomark _)) pe_non (pe_ixK (K := K) rfl (pv 5) pe_int)))))), fun b ds Q p => ?_⟩
  obtain ⟨r, i, c, o, rs, rfl, hr0, h0, h1, hc, ho, hl, hr1, hs, q⟩ := p
  simp only [startD, List.map_nil]
  repeat walk_at "d"
  refine ⟨r, i, c, o, rs, rfl, h0, h1, hc, ho, hl, hr1, ?_⟩
  repeat walk_at "d"
  refine ⟨r, o, i, rfl, hr0, ?_⟩
  repeat walk_at "d"
  refine ⟨_, c, o, rs, rfl, ffrm_ok hr0 o i, hc, hl, hr1, hs, fun g h a1 a2 => ?_⟩
  repeat walk_at "d"
  exact q g a1
def pr_told_receipts (K : PySem.W.Frag) : PrP := fun ds Q => ∃ rs : List Rcp, ds = [.tup (rs.map (drcp K))] ∧ rs.length ≤ 6 ∧ ∀ x, Q x
theorem len_told_receipts {ds Q} (p : pr_told_receipts K ds Q) : ds.length = 1 := by obtain ⟨_, rfl, _⟩ := p; rfl
theorem sc_told_receipts : FnScope ["receipts", "ride", "amounts", "play"] ["receipts"] (defScope (topS 91)) := ⟨rfl, rfl, rfl, by decide +kernel, rfl, by decide +kernel, by decide +kernel⟩
theorem ok_told_receipts (T : Txt K mg base) : Cal P w K mg base 1 "told_receipts" ["receipts"] (spP K (pr_told_receipts K)) := by
  refine cal_pure (T.fn "told_receipts" 91 (by decide +kernel)) sc_told_receipts (fun _ _ _ _ _ _ us hl => match us, hl with | [_], _ => rfl) (fun ds Q p => len_told_receipts p) fun cdv A outer s H f E hr =>
    ⟨_, (pss_one (ps_ret (pe_ctK (r := DL.rTupleOf K) call_tuple_of' (by decide +kernel) (T.free "tuple" (by decide +kernel)) (by rfl) (pa_cons (pe_lc (own := [("ride", 1), ("amounts", 2), ("play", 3)]) (g := (gTup K 3 (gCons (gName 1) (gCons (gName 2) (gCons (gName 3) gNil))))) (tt := tYes) rfl sc_told_receipts.nd (pi_tupK (K := K) rfl (pv 0)) (blkOk_by (own := [("ride", 1), ("amounts", 2), ("play", 3)]) (N := ["receipts", "ride", "amounts", "play"]) (sc := (defScope (topS 91))) (by decide +kernel)) (fun _ _ _ _ _ => (pg_tupK (K := K) (n := 3) rfl rfl (pgs_cons (pg_name (i := 1) sc_told_receipts.nd rfl (Or.inl rfl)) (pgs_cons (pg_name (i := 2) sc_told_receipts.nd rfl (Or.inl rfl)) (pgs_cons (pg_name (i := 3) sc_told_receipts.nd rfl (Or.inl rfl)) pgs_nil))))) (fun _ _ _ _ _ => pts_nil) (fun _ _ _ _ _ => (pe_tup (pa_cons (pe_fldK (K := K) rfl (pv 1)) (pa_cons (pv 2) (pa_cons (pv 3) pa_nil)))))) pa_nil)))), fun b ds Q p => ?_⟩
  obtain ⟨rs, rfl, hl, q⟩ := p
  simp only [startD, List.map_nil]
  repeat walk_at "d"
  refine de_lcM (by walk_at "w") (by walk_at "w") ?_
  refine di_tup ?_
  repeat walk_at "d"
  refine ⟨_, rfl, by rw [List.length_map]; omega, fun _ _ => trivial, fun i => match rs[i]? with | some r => .tup [.tup [dcosts r.ride.costs, driders r.ride.riders], .tup (r.am.map damt), .int r.play] | none => .non, ?_, ?_⟩
  · intro b i x hx
    obtain ⟨r, hr', rfl⟩ := map_get hx
    dsimp only [wipeD, List.map, List.set]
    rw [hr']
    simp only [drcp]
    repeat walk_at "d"
    refine fld_told T ?_
    repeat walk_at "d"
    refine ⟨r.ride, rfl, ?_⟩
    repeat walk_at "d"
    exact ⟨rfl, rfl⟩
  · repeat walk_at "d"
    exact q _
def pr_certify_reached (K : PySem.W.Frag) : PrP := fun ds Q => ∃ (r : Rid) (i : Int) (c : Cus) (o : Str) (rs : List Rcp), ds = [dride K r, .int i, dcus c, .str o, .tup (rs.map (drcp K))] ∧ RidOk r ∧ 0 ≤ i ∧ i < r.riders.length ∧ CusOk c ∧ OrdOk o ∧ rs.length ≤ 6 ∧ (∀ r ∈ rs, RcpOk r) ∧ Some1 (rooms c o rs) ∧ ∀ x t, TblOk t → SzT 310 t → Keep (rooms c o rs) t → Top (rooms c o rs) (ffrm r o i) (wrt (ffrm r o i) t) → Q (.tup [x, dtab t])
theorem len_certify_reached {ds Q} (p : pr_certify_reached K ds Q) : ds.length = 5 := by obtain ⟨_, _, _, _, _, rfl, _⟩ := p; rfl
theorem sc_certify_reached : FnScope ["ride", "rider", "custom", "order", "receipts", "found"] ["ride", "rider", "custom", "order", "receipts"] (defScope (topS 93)) := ⟨rfl, rfl, rfl, by decide +kernel, rfl, by decide +kernel, by decide +kernel⟩
theorem ok_certify_reached (T : Txt K mg base) : Cal P w K mg base 9 "certify_reached" ["ride", "rider", "custom", "order", "receipts"] (spP K (pr_certify_reached K)) := by
  refine cal_pureD (T.fnd "certify_reached" 93 (by decide +kernel)) sc_certify_reached (fun _ _ _ _ _ _ _ us its hl hi => match us, its, hl, hi with | [_, _, _, _, _], [_], _, _ => ⟨_, rfl, rfl⟩) (fun ds Q p => len_certify_reached p) fun cdv A outer s H f E hr =>
    ⟨_, (pss_cons (ps_expr (pe_cal (ok_check_fare (K := K) T) (hr.mono (by decide)) (by rfl) (pa_cons (pv 0) (pa_cons (pv 1) (pa_cons (pv 2) (pa_cons (pv 3) (pa_cons (pv 4) pa_nil)))))))
      (pss_cons (ps_set (i := 5) sc_certify_reached.nd rfl (.inl rfl) (pe_cal (ok_answer_for (K := K) T) (hr.mono (by decide)) (by rfl) (pa_cons (pe_cal (ok_fare_form (K := K) T) (hr.mono (by decide)) (by rfl) (pa_cons (pv 0) (pa_cons (pv 3) (pa_cons (pv 1) pa_nil)))) (pa_cons (pv 2) (pa_cons (pv 3) (pa_cons (pv 4) pa_nil))))))
      (pss_cons (ps_if (pt_cmpR op_isN (pe_fldK (K := K) rfl (pv 5)) pe_non (nomark _)) (pss_one ps_never) pss_nil)
      (pss_one (ps_ret (pe_tup (pa_cons (pe_tup (pa_cons pe_str (pa_cons (pv 2) (pa_cons (pv 3) (pa_cons (pe_cal (ok_told_receipts (K := K) T) (hr.mono (by decide)) (by rfl) (pa_cons (pv 4) pa_nil)) (pa_cons (pe_fldK (K := K) rfl (pv 0)) (pa_cons (pv 1) (pa_cons (pe_fldK (K := K) rfl (pv 5)) pa_nil)))))))) (pa_cons (pe_fldK (K := K) rfl (pv 5)) pa_nil)))))))), fun b ds Q p => ?_⟩
  obtain ⟨r, i, c, o, rs, rfl, hr0, h0, h1, hc, ho, hl, hr1, hs, q⟩ := p
  simp only [startD, List.map_nil]
  repeat walk_at "d"
  refine ⟨r, i, c, o, rs, rfl, h0, h1, hc, ho, hl, hr1, ?_⟩
  repeat walk_at "d"
  refine ⟨r, o, i, rfl, hr0, ?_⟩
  repeat walk_at "d"
  refine ⟨_, c, o, rs, rfl, ffrm_ok hr0 o i, hc, hl, hr1, fun l hn => ?_, fun t d l h1 h2 h3 h4 h5 => ?_⟩
  · obtain ⟨t, h1, h2⟩ := hs
    exact (hn t h1 h2).elim
  repeat walk_at "d"
  refine fld_best T ?_
  repeat walk_at "d"
  refine ⟨_, _, _, _, rfl, ?_⟩
  simp only [dtab_eq]
  repeat walk_at "d"
  refine ⟨rs, rfl, hl, fun x => ?_⟩
  repeat walk_at "d"
  refine fld_told T ?_
  repeat walk_at "d"
  refine ⟨r, rfl, ?_⟩
  repeat walk_at "d"
  refine fld_greatest T ?_
  repeat walk_at "d"
  refine ⟨_, _, _, _, rfl, ?_⟩
  repeat walk_at "d"
  refine fld_best T ?_
  repeat walk_at "d"
  refine ⟨_, _, _, _, rfl, ?_⟩
  repeat walk_at "d"
  exact q _ t h1 h3 h2 ⟨h4, ⟨t, h1, h2, rfl⟩, h5⟩
end
end Cab
/-! W7a -/
set_option Elab.async false
set_option linter.all false
set_option maxRecDepth 100000
set_option maxHeartbeats 4000000
namespace Cab
open PySem PySem.Spec PyProof.Rows L2 DL
local macro_rules | `(tactic| walk_at "d") => `(tactic| first
  | with_reducible refine dx_seq ?_ | with_reducible refine dx_ret ?_ | with_reducible refine dx_asg ?_ | ((with_reducible refine dg_name ?_); dsimp only [List.set])
  | with_reducible refine de_op ?_ | ((with_reducible refine' de_var ?h1 ?_); (case h1 => exact rfl)) | with_reducible refine de_int ?_ | with_reducible refine da_cons ?_ | with_reducible refine da_nil ?_
  | ((with_reducible refine' dr_xT ?h1 ?_); (case h1 => exact rfl)) | ((with_reducible refine' dr_xL ?h1 ?_); (case h1 => exact rfl)) | with_reducible refine dr_I0 ?_ | with_reducible refine dr_I0b ?_ | with_reducible refine de_callP ?_ | with_reducible refine de_callA ?_
  | with_reducible refine de_cb ?_ | with_reducible refine de_un ?_ | with_reducible refine du_I ?_ | with_reducible refine de_bl ?_ | with_reducible refine de_non ?_ | with_reducible refine de_str ?_ | with_reducible refine de_ty ?_
  | with_reducible refine dr_eqI ?_ | with_reducible refine dr_neI ?_ | with_reducible refine dr_eqS ?_ | with_reducible refine dr_isN ?_ | with_reducible refine dr_notN ?_
  | with_reducible refine dt_and ?_ | with_reducible refine dt_or ?_ | with_reducible refine dt_not ?_ | with_reducible refine de_if ?_ | with_reducible refine de_andV ?_ | with_reducible refine de_orV ?_ | with_reducible refine de_notV ?_
  | ((with_reducible refine dt_test ?_)) | ((with_reducible refine dt_B ?_))
  | with_reducible refine dx_par' ?_ | with_reducible refine dx_par3' ?_ | with_reducible refine ex_bl ?_ | with_reducible refine ex_int ?_ | with_reducible refine isi_int ?_ | with_reducible refine isi_intB ?_ | with_reducible refine isi_tup ?_ | with_reducible refine isi_tupS ?_ | with_reducible refine isi_str ?_ | with_reducible refine de_chain ?_ | with_reducible refine dt_chain ?_ | with_reducible refine iteT ?_ | with_reducible refine iteF ?_ | with_reducible refine dx_if ?_ | with_reducible refine dx_drop ?_ | with_reducible refine dx_cont ?_ | with_reducible refine dx_next ?_
  | with_reducible refine dc_abs ?_ | with_reducible refine dc_lenT ?_ | with_reducible refine dc_lenL ?_ | with_reducible refine dc_int ?_ | with_reducible refine dc_max2 ?_ | with_reducible refine dc_min2 ?_ | with_reducible refine dc_tupL ?_
  | with_reducible refine de_fldF ?_ ?_ ?_ | with_reducible refine de_tup ?_ | ((with_reducible refine len_ok ?h1 ?_); (case h1 => exact rfl))
  | ((with_reducible refine iteT' ?h1 ?_); (case h1 => rfl)) | ((with_reducible refine iteF' ?h1 ?_); (case h1 => rfl))
  | with_reducible refine ex_int2 ?_ | ((with_reducible refine' dg_tup ?h1 ?_); (case h1 => rfl)) | with_reducible refine dgs_cons ?_ | with_reducible refine dgs_nil ?_ | with_reducible refine dc_lenX ?_ | with_reducible refine dr_inX ?_
  | dsimp only [List.set])
/-- a comprehension's targets -/
local macro_rules | `(tactic| walk_at "w") => `(tactic| repeat first
  | exact wp_name (by simp) | exact mo_name | exact wps_nil | exact mos_nil
  | refine wp_tup ?_ | refine wps_cons ?_ ?_ ?_ ?_ | refine mo_tup ?_ | refine mos_cons ?_ ?_)
/-- ends that are told by a value: a bool, a pair -/
local macro_rules | `(tactic| walk_at "e") => `(tactic| first
  | walk_at "d"
  | ((with_reducible refine Exists.intro _ (And.intro rfl ?_))))
section
variable {P : Program} {w : World} {K : PySem.W.Frag} {mg : Str → Option Value} {base : Heap}
/-! ### the law's draws -/
def jugL (x y z : Int) : Ow := .lst [.int x, .int y, .int z]
/-- a jug at a, drawn from so often at most -/
def JAt (ob : Own) (a : Addr) (n : Nat) : Prop := ∃ x y z : Int, ob a = some (jugL x y z) ∧ 0 ≤ x ∧ x < 2000000000 ∧ 0 ≤ y ∧ 0 ≤ z ∧ z ≤ (n : Int)
/-- all but the jug is kept -/
def Kp (a : Addr) (ob ow : Own) : Prop := ∀ c x, c ≠ a → ob c = some x → ow c = some x
theorem JAt.mono {ob : Own} {a : Addr} {n m : Nat} (h : JAt ob a n) (e : n ≤ m) : JAt ob a m := by
  obtain ⟨x, y, z, h0, h1, h2, h3, h4, h5⟩ := h
  exact ⟨x, y, z, h0, h1, h2, h3, h4, by omega⟩
theorem JAt.ne {ob : Own} {a p : Addr} {n : Nat} (h : JAt ob a n) (hp : ob p = none) : p ≠ a := fun e => by
  obtain ⟨x, y, z, h0, _⟩ := h
  rw [e, h0] at hp; cases hp
theorem JAt.put {ob : Own} {a p : Addr} {n : Nat} {l : Ow} (h : JAt ob a n) (hp : p ≠ a) : JAt (ob.put p l) a n := by
  obtain ⟨x, y, z, h0, h1⟩ := h
  exact ⟨x, y, z, by rw [Own.put_ne (Ne.symm hp)]; exact h0, h1⟩
theorem JAt.del {ob : Own} {a p : Addr} {n : Nat} (h : JAt ob a n) (hp : p ≠ a) : JAt (ob.del p) a n := by
  obtain ⟨x, y, z, h0, h1⟩ := h
  exact ⟨x, y, z, by simp [Own.del, Ne.symm hp]; exact h0, h1⟩
theorem Kp.refl {a : Addr} {ob : Own} : Kp a ob ob := fun _ _ _ h => h
theorem Kp.trans {a : Addr} {o1 o2 o3 : Own} (h : Kp a o1 o2) (k : Kp a o2 o3) : Kp a o1 o3 := fun c x hc e => k c x hc (h c x hc e)
theorem Kp.put {a p : Addr} {ob ow : Own} {l : Ow} (h : Kp a ob ow) (hp : ow p = none) : Kp a ob (ow.put p l) := fun c x hc e => by
  have e1 := h c x hc e
  rw [Own.put_ne fun z => ?_]; exact e1
  rw [z, hp] at e1; cases e1
theorem Kp.jug {a : Addr} {ob ow : Own} {l : Ow} (h : Kp a ob ow) : Kp a ob (ow.put a l) := fun c x hc e => by
  rw [Own.put_ne hc]; exact h c x hc e
theorem Kp.del {a p : Addr} {ob ow : Own} (h : Kp a ob ow) (hp : ob p = none) : Kp a ob (ow.del p) := fun c x hc e => by
  have e1 := h c x hc e
  have : c ≠ p := fun z => by rw [z, hp] at e; cases e
  simp [Own.del, this]; exact e1
theorem Kp.putO {a p : Addr} {ob ow : Own} {l : Ow} (h : Kp a ob ow) (hp : ob p = none) : Kp a ob (ow.put p l) := fun c x hc e => by
  have e1 := h c x hc e
  rw [Own.put_ne fun z => ?_]; exact e1
  rw [z, hp] at e; cases e
theorem Kp.none {a p : Addr} {ob ow : Own} (h : Kp a ob ow) (hp : ow p = none) (hne : p ≠ a) : ob p = none := by
  cases q : ob p with
  | none => rfl
  | some x => rw [h p x hne q] at hp; cases hp
theorem cdivP_small {i j : Int} (h : 0 < j) (h2 : j.natAbs < 2 ^ 60) : CDivP i j := by
  refine ⟨h, ?_⟩
  show (decide ((if j == 0 then 0 else j.natAbs.log2 / 30 + 1) > 300) && _) = false
  rw [if_neg (show ¬ (j == 0) = true by simpa using (show j ≠ 0 by omega))]
  have : j.natAbs.log2 < 60 := (Nat.log2_lt (by omega)).mpr h2
  rw [decide_eq_false (by omega), Bool.false_and]
theorem jget {ob : Own} {a : Addr} {x y z : Int} (h : ob a = some (jugL x y z)) : ob a = some (.lst [.int x, .int y, .int z]) := h
def pr_drop : Pr := fun ds ob QD => ∃ (a : Addr) (n : Nat) (m : Int), ds = [.ptr a, .int m] ∧ JAt ob a n ∧ n ≤ 1000000 ∧ 0 < m ∧ m ≤ 1000 ∧ ∀ ob' v, JAt ob' a (n + 2) → Kp a ob ob' → 0 ≤ v → v < m → QD (.int v) ob'
theorem len__law_drop {ds ob Q} (p : pr_drop ds ob Q) : ds.length = 2 := by obtain ⟨_, _, _, rfl, _⟩ := p; rfl
theorem sc__law_drop : FnScope ["_law_jug_here", "_law_many", "_law_digit"] ["_law_jug_here", "_law_many"] (defScope (topS 96)) := ⟨rfl, rfl, rfl, by decide +kernel, rfl, by decide +kernel, by decide +kernel⟩
theorem ok__law_drop (T : Txt K mg base) : Cal P w K mg base 1 "_law_drop" ["_law_jug_here", "_law_many"] (spD K (pr_drop)) := by
  refine cal_mk (T.fn "_law_drop" 96 (by decide +kernel)) sc__law_drop (fun _ _ _ _ _ _ us hl => match us, hl with | [_, _], _ => rfl) (fun ds ob Q p => len__law_drop p) fun cdv A outer s H f E hr =>
    ⟨_, (pss_cons (ps_asg (pe_op op_add (pe_ixK (K := K) rfl (pv 0) pe_int) pe_int) (pg_sub (pv 0) pe_int set_list))
      (pss_cons (ps_if (pt_cmpR op_gt (pe_ixK (K := K) rfl (pv 0) pe_int) pe_int (nomark _)) (pss_cons (ps_asg (pe_cbK (r := DL.rDivmod) call_divmod' (by decide +kernel) (T.free "divmod" (by decide +kernel)) (by rfl) (pa_cons (pe_ctK (r := DL.rInt1) call_int1' (by decide +kernel) (T.free "int" (by decide +kernel)) (by rfl) (pa_cons (pe_ixK (K := K) rfl (pv 0) pe_int) pa_nil)) (pa_cons (pv 1) pa_nil))) (pg_tupK (K := K) (n := 2) rfl rfl (pgs_cons (pg_sub (pv 0) pe_int set_list) (pgs_cons (pg_name (i := 2) sc__law_drop.nd rfl (.inl rfl)) pgs_nil))))
      (pss_one (ps_ret (pv 2)))) pss_nil)
      (pss_cons (ps_asg (pe_op op_mod (pe_ctK (r := DL.rInt1) call_int1' (by decide +kernel) (T.free "int" (by decide +kernel)) (by rfl) (pa_cons (pe_op op_add (pe_op op_add (pe_op op_mulW (pe_ixK (K := K) rfl (pv 0) pe_int) pe_int) (pe_op op_mulW (pe_ixK (K := K) rfl (pv 0) pe_int) pe_int)) (pe_op op_mulW (pe_op op_fdivW (pe_ixK (K := K) rfl (pv 0) pe_int) pe_int) pe_int)) pa_nil)) pe_int) (pg_sub (pv 0) pe_int set_list))
      (pss_one (ps_ret (pe_op op_mod (pe_ctK (r := DL.rInt1) call_int1' (by decide +kernel) (T.free "int" (by decide +kernel)) (by rfl) (pa_cons (pe_op op_fdivW (pe_ixK (K := K) rfl (pv 0) pe_int) pe_int) pa_nil)) (pv 1))))))), fun b ds ob Q p => ?_⟩
  obtain ⟨a, n, m, rfl, ⟨x, y, z, ho, h1, h2, h3, h4, h5⟩, hn, hm1, hm2, q⟩ := p
  simp only [startD, List.map_nil]
  have ho := jget ho
  repeat walk_at "d"
  refine dr_xO ho rfl ?_
  repeat walk_at "d"
  refine dg_sub ?_
  repeat walk_at "d"
  refine ⟨a, _, _, _, rfl, ho, rfl, rfl, ?_⟩
  repeat walk_at "d"
  refine dr_xO Own.put_same rfl ?_
  repeat walk_at "d"
  by_cases hy : 0 < y
  · refine iteT' (decide_eq_true hy) ?_
    repeat walk_at "d"
    refine dr_xO Own.put_same rfl ?_
    repeat walk_at "d"
    refine dc_divmod (cdivP_small hm1 (by omega)) ?_
    repeat walk_at "d"
    refine dg_sub ?_
    repeat walk_at "d"
    refine ⟨a, _, _, _, rfl, Own.put_same, rfl, rfl, ?_⟩
    repeat walk_at "d"
    refine endD_all (q _ _ ⟨x, y / m, z + 2, ?_, h1, h2, Int.ediv_nonneg h3 (by omega), by omega, by omega⟩ ?_ (Int.emod_nonneg _ (by omega)) (Int.emod_lt_of_pos _ hm1))
    · exact Own.put_same
    · exact Kp.refl.jug.jug
  · refine iteF' (decide_eq_false hy) ?_
    repeat walk_at "d"
    refine dr_xO Own.put_same rfl ?_
    repeat walk_at "d"
    refine dr_I (wmul (a := 40) (c := 20) (by omega) (by decide)) ?_
    repeat walk_at "d"
    refine dr_xO Own.put_same rfl ?_
    repeat walk_at "d"
    refine dr_I (wmul (a := 40) (c := 20) (by omega) (by decide)) ?_
    repeat walk_at "d"
    refine dr_xO Own.put_same rfl ?_
    repeat walk_at "d"
    refine dr_I (smallW (by decide) (by decide)) ?_
    repeat walk_at "d"
    have hq : 0 ≤ x / 5003 ∧ x / 5003 < 2000000000 := by omega
    refine dr_I (wmul (a := 40) (c := 20) (by omega) (by decide)) ?_
    repeat walk_at "d"
    refine dr_I (by decide) ?_
    repeat walk_at "d"
    refine dg_sub ?_
    repeat walk_at "d"
    refine ⟨a, _, _, _, rfl, Own.put_same, rfl, rfl, ?_⟩
    repeat walk_at "d"
    refine dr_xO Own.put_same rfl ?_
    repeat walk_at "d"
    refine dr_I (smallW (by decide) (by decide)) ?_
    repeat walk_at "d"
    refine dr_I hm1 ?_
    refine endD_all (q _ _ ⟨_, y, z + 2, Own.put_same, ?_, ?_, h3, by omega, by omega⟩ ?_ (Int.emod_nonneg _ (by omega)) (Int.emod_lt_of_pos _ hm1))
    · exact Int.emod_nonneg _ (by decide)
    · exact Int.lt_trans (Int.emod_lt_of_pos _ (by decide)) (by decide)
    · exact Kp.refl.jug.jug
theorem atI_in {xs : List Dt} {v : Int} (h0 : 0 ≤ v) (h1 : v < xs.length) : atI xs v = some (xs.getD v.toNat .non) := by
  have e : v.toNat < xs.length := by omega
  unfold atI
  have : ixN xs.length v = some v.toNat := by unfold ixN; rw [if_pos (by omega), if_pos (by omega)]
  rw [this]
  simp [List.getD_eq_getElem?_getD, List.getElem?_eq_getElem e]
theorem getD_in {xs : List Dt} {v : Nat} (h1 : v < xs.length) : xs.getD v .non ∈ xs := by
  rw [List.getD_eq_getElem?_getD, List.getElem?_eq_getElem h1]
  exact List.getElem_mem _
def pr_one : Pr := fun ds ob QD => ∃ (a : Addr) (n : Nat) (xs : List Dt), ds = [.ptr a, .lst xs] ∧ JAt ob a n ∧ n ≤ 1000000 ∧ 0 < xs.length ∧ xs.length ≤ 1000 ∧ ∀ ob' v, JAt ob' a (n + 2) → Kp a ob ob' → v ∈ xs → QD v ob'
theorem len__law_one {ds ob Q} (p : pr_one ds ob Q) : ds.length = 2 := by obtain ⟨_, _, _, rfl, _⟩ := p; rfl
theorem sc__law_one : FnScope ["_law_jug_here", "_law_things"] ["_law_jug_here", "_law_things"] (defScope (topS 97)) := ⟨rfl, rfl, rfl, by decide +kernel, rfl, by decide +kernel, by decide +kernel⟩
theorem ok__law_one (T : Txt K mg base) : Cal P w K mg base 2 "_law_one" ["_law_jug_here", "_law_things"] (spD K (pr_one)) := by
  refine cal_mk (T.fn "_law_one" 97 (by decide +kernel)) sc__law_one (fun _ _ _ _ _ _ us hl => match us, hl with | [_, _], _ => rfl) (fun ds ob Q p => len__law_one p) fun cdv A outer s H f E hr =>
    ⟨_, (pss_one (ps_ret (pe_ixK (K := K) rfl (pv 1) (pe_cal (ok__law_drop (K := K) T) (hr.mono (by decide)) (by rfl) (pa_cons (pv 0) (pa_cons (pe_cbK (r := DL.rLen K) call_len' boot_len (T.free "len" (by decide +kernel)) (by rfl) (pa_cons (pv 1) pa_nil)) pa_nil)))))), fun b ds ob Q p => ?_⟩
  obtain ⟨a, n, xs, rfl, hj, hn, hl0, hl1, q⟩ := p
  simp only [startD, List.map_nil]
  repeat walk_at "d"
  refine ⟨a, n, _, rfl, hj, hn, by omega, by omega, fun ob' v j k v0 v1 => ?_⟩
  refine dr_xL (atI_in v0 v1) ?_
  exact endD_all (q _ _ j k (getD_in (by omega)))
def pr_low : PrP := fun ds Q => ∃ u m : Int, ds = [.int u, .int m] ∧ 0 < m ∧ m.natAbs < 2 ^ 9000 ∧ Q (dq (Rat.divInt u m))
theorem len__law_low {ds Q} (p : pr_low ds Q) : ds.length = 2 := by obtain ⟨_, _, rfl, _⟩ := p; rfl
theorem sc__law_low : FnScope ["_law_up", "_law_down", "_law_high", "_law_rest"] ["_law_up", "_law_down"] (defScope (topS 98)) := ⟨rfl, rfl, rfl, by decide +kernel, rfl, by decide +kernel, by decide +kernel⟩
theorem ok__law_low (T : Txt K mg base) : Cal P w K mg base 2 "_law_low" ["_law_up", "_law_down"] (spP K (pr_low)) := by
  refine cal_pure (T.fn "_law_low" 98 (by decide +kernel)) sc__law_low (fun _ _ _ _ _ _ us hl => match us, hl with | [_, _], _ => rfl) (fun ds Q p => len__law_low p) fun cdv A outer s H f E hr =>
    ⟨_, (pss_cons (ps_par (i := 2) (j := 3) rfl sc__law_low.nd rfl rfl (by decide) rfl rfl (pa_cons (pe_cbK (r := DL.rMax2) (call_max2' rfl) (by decide +kernel) (T.free "max" (by decide +kernel)) (by rfl) (pa_cons (pe_cbK (r := DL.rAbs) call_abs' (by decide +kernel) (T.free "abs" (by decide +kernel)) (by rfl) (pa_cons (pv 0) pa_nil)) (pa_cons (pv 1) pa_nil))) (pa_cons (pe_cbK (r := DL.rMin2) (call_min2' rfl) (by decide +kernel) (T.free "min" (by decide +kernel)) (by rfl) (pa_cons (pe_cbK (r := DL.rAbs) call_abs' (by decide +kernel) (T.free "abs" (by decide +kernel)) (by rfl) (pa_cons (pv 0) pa_nil)) (pa_cons (pv 1) pa_nil))) pa_nil)) (by rfl))
      (pss_cons (ps_while PassesOwn.never (pt_cmpR op_gt (pv 3) pe_int (nomark _)) (pss_one (ps_par (i := 2) (j := 3) rfl sc__law_low.nd rfl rfl (by decide) rfl rfl (pa_cons (pv 3) (pa_cons (pe_op op_mod (pe_ctK (r := DL.rInt1) call_int1' (by decide +kernel) (T.free "int" (by decide +kernel)) (by rfl) (pa_cons (pv 2) pa_nil)) (pv 3)) pa_nil)) (by rfl))))
      (pss_one (ps_ret (pe_tup (pa_cons (pe_op op_fdivW (pv 0) (pv 2)) (pa_cons (pe_op op_fdivW (pv 1) (pv 2)) pa_nil))))))), fun b ds Q p => ?_⟩
  obtain ⟨u, m, rfl, hm, hz, q⟩ := p
  simp only [startD, List.map_nil]
  repeat walk_at "d"
  refine dx_while (fun k d => ∃ h l : Int, d = ⟨[some (.int u), some (.int m), some (.int h), some (.int l)], own0⟩ ∧ 0 < h ∧ 0 ≤ l ∧ l.toNat = k ∧ Int.gcd h l = Int.gcd u m) (if m < (if u < 0 then -u else u) then m else (if u < 0 then -u else u)).toNat ⟨_, _, rfl, ?_, ?_, rfl, ?_⟩ ?_
  · split <;> split <;> omega
  · split <;> split <;> omega
  · have e1 : Int.gcd (if u < 0 then -u else u) m = Int.gcd u m := by split <;> simp [Int.gcd]
    generalize (if u < 0 then -u else u) = w at *
    by_cases c1 : m > w
    · rw [if_pos c1, if_neg (by omega), Int.gcd_comm]; exact e1
    · rw [if_neg c1]
      by_cases c2 : m < w
      · rw [if_pos c2]; exact e1
      · rw [if_neg c2]
        have : w = m := by omega
        rw [this] at e1 ⊢; exact e1
  · rintro k d ⟨h, l, rfl, h0, l0, hk, hg⟩
    repeat walk_at "d"
    by_cases hl : 0 < l
    · rw [if_pos (decide_eq_true hl)]
      repeat walk_at "d"
      refine dr_I hl ?_
      dsimp only [List.set]
      have hmod : 0 ≤ h % l := Int.emod_nonneg _ (by omega)
      have hlt : h % l < l := Int.emod_lt_of_pos _ hl
      refine ⟨(h % l).toNat, by omega, l, h % l, rfl, hl, hmod, rfl, ?_⟩
      rw [← hg]
      obtain ⟨h', rfl⟩ := Int.eq_ofNat_of_zero_le (Int.le_of_lt h0)
      obtain ⟨l', rfl⟩ := Int.eq_ofNat_of_zero_le l0
      rw [← Int.natCast_emod]
      show Nat.gcd l' (h' % l') = Nat.gcd h' l'
      rw [Nat.gcd_comm h' l', Nat.gcd_rec l' h', Nat.gcd_comm]
    · rw [if_neg (by simpa using hl)]
      have e : l = 0 := by omega
      subst e
      have e2 : h = (Int.gcd u m : Nat) := by
        rw [← hg, Int.gcd_zero_right]; omega
      subst e2
      have hd : ∀ i : Int, CDivW i (Int.gcd u m : Nat) := fun i => wide_div h0 (b := 9000) (by
        have : Int.gcd u m ≤ m.natAbs := Nat.le_of_dvd (by omega) (Int.gcd_dvd_natAbs_right u m)
        omega) (by decide) (by decide)
      repeat walk_at "d"
      refine dr_I (hd _) ?_
      repeat walk_at "d"
      refine dr_I (hd _) ?_
      repeat walk_at "d"
      rw [frac_eq hm] at q
      exact q
def pr_ladd : PrP := fun ds Q => ∃ r s : Rat, ds = [dq r, dq s] ∧ Sz r ∧ Sz s ∧ Q (dq (r + s))
theorem len__law_add {ds Q} (p : pr_ladd ds Q) : ds.length = 2 := by obtain ⟨_, _, rfl, _⟩ := p; rfl
theorem sc__law_add : FnScope ["_law_a", "_law_b"] ["_law_a", "_law_b"] (defScope (topS 99)) := ⟨rfl, rfl, rfl, by decide +kernel, rfl, by decide +kernel, by decide +kernel⟩
theorem ok__law_add (T : Txt K mg base) : Cal P w K mg base 3 "_law_add" ["_law_a", "_law_b"] (spP K (pr_ladd)) := by
  refine cal_pure (T.fn "_law_add" 99 (by decide +kernel)) sc__law_add (fun _ _ _ _ _ _ us hl => match us, hl with | [_, _], _ => rfl) (fun ds Q p => len__law_add p) fun cdv A outer s H f E hr =>
    ⟨_, (pss_one (ps_ret (pe_cal (ok__law_low (K := K) T) (hr.mono (by decide)) (by rfl) (pa_cons (pe_op op_add (pe_op op_mulW (pe_ixK (K := K) rfl (pv 0) pe_int) (pe_ixK (K := K) rfl (pv 1) pe_int)) (pe_op op_mulW (pe_ixK (K := K) rfl (pv 1) pe_int) (pe_ixK (K := K) rfl (pv 0) pe_int))) (pa_cons (pe_op op_mulW (pe_ixK (K := K) rfl (pv 0) pe_int) (pe_ixK (K := K) rfl (pv 1) pe_int)) pa_nil))))), fun b ds Q p => ?_⟩
  obtain ⟨r, s, rfl, hr, hs, q⟩ := p
  simp only [startD, List.map_nil, dq]
  repeat walk_at "d"
  refine dr_I (wmul hr.1 (show ((s.den : Int)).natAbs < 2 ^ 4000 from hs.2)) ?_
  repeat walk_at "d"
  refine dr_I (wmul hs.1 (show ((r.den : Int)).natAbs < 2 ^ 4000 from hr.2)) ?_
  repeat walk_at "d"
  refine dr_I (wmul (show ((r.den : Int)).natAbs < 2 ^ 4000 from hr.2) (show ((s.den : Int)).natAbs < 2 ^ 4000 from hs.2)) ?_
  repeat walk_at "d"
  have pr := r.den_pos
  have ps := s.den_pos
  refine ⟨_, _, rfl, Int.mul_pos (by omega) (by omega), ?_, ?_⟩
  · have := wide_lt (i := (r.den : Int)) (j := (s.den : Int)) hr.2 hs.2
    exact Nat.lt_of_lt_of_le this (Nat.pow_le_pow_right (by decide) (by decide))
  · rw [Rat.add_def, Rat.normalize_eq_mkRat] at q
    rw [show ((r.den : Int) * (s.den : Int)) = ((r.den * s.den : Nat) : Int) by rw [Int.natCast_mul], Rat.divInt_ofNat]
    exact q
def pr_lunder : PrP := fun ds Q => ∃ r s : Rat, ds = [dq r, dq s] ∧ Sz r ∧ Sz s ∧ Q (.bl (decide (r < s)))
theorem len__law_under {ds Q} (p : pr_lunder ds Q) : ds.length = 2 := by obtain ⟨_, _, rfl, _⟩ := p; rfl
theorem sc__law_under : FnScope ["_law_a", "_law_b"] ["_law_a", "_law_b"] (defScope (topS 100)) := ⟨rfl, rfl, rfl, by decide +kernel, rfl, by decide +kernel, by decide +kernel⟩
theorem ok__law_under (T : Txt K mg base) : Cal P w K mg base 1 "_law_under" ["_law_a", "_law_b"] (spP K (pr_lunder)) := by
  refine cal_pure (T.fn "_law_under" 100 (by decide +kernel)) sc__law_under (fun _ _ _ _ _ _ us hl => match us, hl with | [_, _], _ => rfl) (fun ds Q p => len__law_under p) fun cdv A outer s H f E hr =>
    ⟨_, (pss_one (ps_ret (pe_cmpR op_lt (pe_op op_mulW (pe_ixK (K := K) rfl (pv 0) pe_int) (pe_ixK (K := K) rfl (pv 1) pe_int)) (pe_op op_mulW (pe_ixK (K := K) rfl (pv 1) pe_int) (pe_ixK (K := K) rfl (pv 0) pe_int)) (nomark _)))), fun b ds Q p => ?_⟩
  obtain ⟨r, s, rfl, hr, hs, q⟩ := p
  simp only [startD, List.map_nil, dq]
  repeat walk_at "d"
  refine dr_I (wmul hr.1 (show ((s.den : Int)).natAbs < 2 ^ 4000 from hs.2)) ?_
  repeat walk_at "d"
  refine dr_I (wmul hs.1 (show ((r.den : Int)).natAbs < 2 ^ 4000 from hr.2)) ?_
  repeat walk_at "d"
  rw [show decide (r < s) = decide (r.num * (s.den : Int) < s.num * (r.den : Int)) from decide_eq_decide.mpr (Rat.lt_iff r s)] at q
  exact q
theorem szR_ofInt (i : Int) : ((i : Rat)).num = i := Rat.num_intCast i
def pr_jug : Pr := fun ds ob QD => ∃ (sc : List Int) (k : Int), ds = [.lst (sc.map Dt.int), .int k] ∧ 0 ≤ k ∧ k ≤ 10 ∧ sc.length ≤ 1000 ∧ ∀ ob' a, ob a = none → JAt ob' a 3 → Kp a ob ob' → QD (.ptr a) ob'
theorem len__law_jug {ds ob Q} (p : pr_jug ds ob Q) : ds.length = 2 := by obtain ⟨_, _, rfl, _⟩ := p; rfl
theorem jug_atI {sc : List Int} {k : Int} (h0 : 0 ≤ k) (h1 : k < sc.length) : atI (sc.map Dt.int) k = some (.int (sc.getD k.toNat 0)) := by
  have e : k.toNat < sc.length := by omega
  rw [atI_in h0 (by rw [List.length_map]; exact h1)]
  simp [List.getD_eq_getElem?_getD, List.getElem?_eq_getElem e]
theorem sc__law_jug : FnScope ["_law_script", "_law_k", "_law_own", "_law_mixed", "_law_entry"] ["_law_script", "_law_k"] (defScope (topS 95)) := ⟨rfl, rfl, rfl, by decide +kernel, rfl, by decide +kernel, by decide +kernel⟩
theorem ok__law_jug (T : Txt K mg base) : Cal P w K mg base 1 "_law_jug" ["_law_script", "_law_k"] (spD K (pr_jug)) := by
  refine cal_mk (T.fn "_law_jug" 95 (by decide +kernel)) sc__law_jug (fun _ _ _ _ _ _ us hl => match us, hl with | [_, _], _ => rfl) (fun ds ob Q p => len__law_jug p) fun cdv A outer s H f E hr =>
    ⟨_, (pss_cons (ps_set (i := 2) sc__law_jug.nd rfl (.inl rfl) (pe_ifExp (pt_cmpR op_lt (pv 1) (pe_cbK (r := DL.rLen K) call_len' boot_len (T.free "len" (by decide +kernel)) (by rfl) (pa_cons (pv 0) pa_nil)) (nomark _)) (pe_ctK (r := DL.rInt1) call_int1' (by decide +kernel) (T.free "int" (by decide +kernel)) (by rfl) (pa_cons (pe_ixK (K := K) rfl (pv 0) (pv 1)) pa_nil)) (pe_op op_add (pe_op op_mulW pe_int (pv 1)) pe_int)))
      (pss_cons (ps_set (i := 3) sc__law_jug.nd rfl (.inl rfl) (pe_op op_add pe_int (pe_op op_mulW pe_int (pv 1))))
      (pss_cons (ps_for PassesOwn.never rfl (pi_listK (K := K) rfl (pe_slice (r := rSlL K) sl_list (pv 0) po_none (po_some pe_int))) (pg_name (i := 4) sc__law_jug.nd rfl (.inl rfl))
      (pss_one (ps_set (i := 3) sc__law_jug.nd rfl (.inl rfl) (pe_op op_mod (pe_ctK (r := DL.rInt1) call_int1' (by decide +kernel) (T.free "int" (by decide +kernel)) (by rfl) (pa_cons (pe_op op_add (pe_op op_mulW (pv 3) pe_int) (pe_op op_mod (pe_ctK (r := DL.rInt1) call_int1' (by decide +kernel) (T.free "int" (by decide +kernel)) (by rfl) (pa_cons (pv 4) pa_nil)) pe_int)) pa_nil)) pe_int))))
      (pss_one (ps_ret (pe_lst (pa_cons (pe_op op_mod (pe_ctK (r := DL.rInt1) call_int1' (by decide +kernel) (T.free "int" (by decide +kernel)) (by rfl) (pa_cons (pe_op op_add (pe_op op_mulW (pv 3) pe_int) (pe_op op_mod (pv 2) pe_int)) pa_nil)) pe_int) (pa_cons (pe_ifExp (PW.pt (pw_or (pt_cmpR op_lt (pv 2) pe_int (nomark _)) (pw_or1 (pt_cmpR op_ge (pv 2) (pe_op op_pow pe_int pe_int) (nomark _))))) (pe_cbK (r := DL.rAbs) call_abs' (by decide +kernel) (T.free "abs" (by decide +kernel)) (by rfl) (pa_cons (pv 2) pa_nil)) pe_int) (pa_cons pe_int pa_nil))))))))), fun b ds ob Q p => ?_⟩
  obtain ⟨sc, k, rfl, h0, h1, hl, q⟩ := p
  simp only [startD, List.map_nil]
  refine dx_seq ?_
  refine dx_asg ?_
  refine de_some (Pv := fun x => ∃ i, x = .int i) ?_ ?_
  · repeat walk_at "d"
    by_cases hk : k < (sc.map Dt.int).length
    · refine iteT' (decide_eq_true hk) ?_
      rw [List.length_map] at hk
      repeat walk_at "d"
      refine dr_xL (jug_atI h0 hk) ?_
      repeat walk_at "d"
      exact ⟨rfl, _, rfl⟩
    · refine iteF' (decide_eq_false hk) ?_
      repeat walk_at "d"
      refine dr_I (wmul (a := 40) (c := 20) (by decide) (by omega)) ?_
      repeat walk_at "d"
      exact ⟨rfl, _, rfl⟩
  rintro x ⟨own, rfl⟩
  repeat walk_at "d"
  refine dr_I (wmul (a := 40) (c := 20) (by decide) (by omega)) ?_
  repeat walk_at "d"
  refine dx_for (di_list ?_)
  refine de_slL ?_
  repeat walk_at "d"
  refine do_no ?_
  refine do_some ?_
  repeat walk_at "d"
  refine ⟨_, rfl, ?_⟩
  refine ⟨_, rfl, fun _ d => ∃ (v : Int) (x : Option Dt), d = ⟨[some (.lst (sc.map Dt.int)), some (.int k), some (.int own), some (.int v), x], ob⟩ ∧ 0 ≤ v ∧ v < 2000000000, ⟨_, _, rfl, by omega, by omega⟩, fun _ _ _ _ => trivial, ?_, ?_⟩
  · rintro i x d hx ⟨v, u, rfl, v0, v1⟩
    have hm : x ∈ sc.map Dt.int := List.mem_of_mem_drop (List.mem_of_mem_take (List.mem_of_getElem? hx))
    obtain ⟨e, _, rfl⟩ := List.mem_map.mp hm
    repeat walk_at "d"
    refine dr_I (wmul (a := 40) (c := 20) (by omega) (by decide)) ?_
    repeat walk_at "d"
    refine dr_I (by decide) ?_
    repeat walk_at "d"
    refine dr_I (by decide) ?_
    repeat walk_at "d"
    exact ⟨_, _, rfl, Int.emod_nonneg _ (by decide), Int.lt_trans (Int.emod_lt_of_pos _ (by decide)) (by decide)⟩
  · rintro d ⟨v, u, rfl, v0, v1⟩
    repeat walk_at "d"
    refine de_lstO ?_
    repeat walk_at "d"
    refine dr_I (wmul (a := 40) (c := 20) (by omega) (by decide)) ?_
    repeat walk_at "d"
    refine dr_I (by decide) ?_
    repeat walk_at "d"
    refine dr_I (by decide) ?_
    refine da_cons ?_
    refine de_some (Pv := fun x => ∃ i, x = .int i ∧ 0 ≤ i) ?_ ?_
    · repeat walk_at "d"
      have fin : ∀ c : Bool, if c = true then DE K b (tCB rAbs (tCons (tVar 2) tNil)) ⟨[some (.lst (sc.map Dt.int)), some (.int k), some (.int own), some (.int v), u], ob⟩ (fun x d1 => d1 = ⟨[some (.lst (sc.map Dt.int)), some (.int k), some (.int own), some (.int v), u], ob⟩ ∧ ∃ i, x = .int i ∧ 0 ≤ i) else DE K b (tC (.int 0)) ⟨[some (.lst (sc.map Dt.int)), some (.int k), some (.int own), some (.int v), u], ob⟩ (fun x d1 => d1 = ⟨[some (.lst (sc.map Dt.int)), some (.int k), some (.int own), some (.int v), u], ob⟩ ∧ ∃ i, x = .int i ∧ 0 ≤ i) := by
        intro c
        cases c with
        | true =>
          refine iteT' rfl ?_
          repeat walk_at "d"
          exact ⟨rfl, _, rfl, by split <;> omega⟩
        | false =>
          refine iteF' rfl ?_
          repeat walk_at "d"
          exact ⟨rfl, _, rfl, by decide⟩
      by_cases hn : own < 0
      · refine iteT' (decide_eq_true hn) ?_
        exact fin true
      · refine iteF' (decide_eq_false hn) ?_
        repeat walk_at "d"
        refine dr_I (show CPow 10 13 by unfold CPow; decide) ?_
        repeat walk_at "d"
        exact fin _
    rintro x ⟨y, rfl, hy⟩
    repeat walk_at "d"
    intro p hp
    refine endD_all (q _ _ hp ⟨_, y, 3, Own.put_same, ?_, ?_, hy, by decide, by decide⟩ (Kp.refl.put hp))
    · exact Int.emod_nonneg _ (by decide)
    · exact Int.lt_trans (Int.emod_lt_of_pos _ (by decide)) (by decide)
end
end Cab
/-! W7b -/
set_option Elab.async false
set_option linter.all false
set_option maxRecDepth 100000
set_option maxHeartbeats 4000000
namespace Cab
open PySem PySem.Spec PyProof.Rows L2 DL
local macro_rules | `(tactic| walk_at "d") => `(tactic| first
  | with_reducible refine dx_seq ?_ | with_reducible refine dx_ret ?_ | with_reducible refine dx_asg ?_ | ((with_reducible refine dg_name ?_); dsimp only [List.set])
  | with_reducible refine de_op ?_ | ((with_reducible refine' de_var ?h1 ?_); (case h1 => exact rfl)) | with_reducible refine de_int ?_ | with_reducible refine da_cons ?_ | with_reducible refine da_nil ?_
  | ((with_reducible refine' dr_xT ?h1 ?_); (case h1 => exact rfl)) | ((with_reducible refine' dr_xL ?h1 ?_); (case h1 => exact rfl)) | with_reducible refine dr_I0 ?_ | with_reducible refine dr_I0b ?_ | with_reducible refine de_callP ?_ | with_reducible refine de_callA ?_
  | with_reducible refine de_cb ?_ | with_reducible refine de_un ?_ | with_reducible refine du_I ?_ | with_reducible refine de_bl ?_ | with_reducible refine de_non ?_ | with_reducible refine de_str ?_ | with_reducible refine de_ty ?_
  | with_reducible refine dr_eqI ?_ | with_reducible refine dr_neI ?_ | with_reducible refine dr_eqS ?_ | with_reducible refine dr_isN ?_ | with_reducible refine dr_notN ?_
  | with_reducible refine dt_and ?_ | with_reducible refine dt_or ?_ | with_reducible refine dt_not ?_ | with_reducible refine de_if ?_ | with_reducible refine de_andV ?_ | with_reducible refine de_orV ?_ | with_reducible refine de_notV ?_
  | ((with_reducible refine dt_test ?_)) | ((with_reducible refine dt_B ?_))
  | with_reducible refine dx_par' ?_ | with_reducible refine dx_par3' ?_ | with_reducible refine ex_bl ?_ | with_reducible refine ex_int ?_ | with_reducible refine isi_int ?_ | with_reducible refine isi_intB ?_ | with_reducible refine isi_tup ?_ | with_reducible refine isi_tupS ?_ | with_reducible refine isi_str ?_ | with_reducible refine de_chain ?_ | with_reducible refine dt_chain ?_ | with_reducible refine iteT ?_ | with_reducible refine iteF ?_ | with_reducible refine dx_if ?_ | with_reducible refine dx_drop ?_ | with_reducible refine dx_cont ?_ | with_reducible refine dx_next ?_
  | with_reducible refine dc_abs ?_ | with_reducible refine dc_lenT ?_ | with_reducible refine dc_lenL ?_ | with_reducible refine dc_int ?_ | with_reducible refine dc_max2 ?_ | with_reducible refine dc_min2 ?_ | with_reducible refine dc_tupL ?_
  | with_reducible refine de_fldF ?_ ?_ ?_ | with_reducible refine de_tup ?_ | ((with_reducible refine len_ok ?h1 ?_); (case h1 => exact rfl))
  | ((with_reducible refine iteT' ?h1 ?_); (case h1 => rfl)) | ((with_reducible refine iteF' ?h1 ?_); (case h1 => rfl))
  | with_reducible refine ex_int2 ?_ | ((with_reducible refine' dg_tup ?h1 ?_); (case h1 => rfl)) | with_reducible refine dgs_cons ?_ | with_reducible refine dgs_nil ?_ | with_reducible refine dc_lenX ?_ | with_reducible refine dr_inX ?_
  | dsimp only [List.set])
/-- a comprehension's targets -/
local macro_rules | `(tactic| walk_at "w") => `(tactic| repeat first
  | exact wp_name (by simp) | exact mo_name | exact wps_nil | exact mos_nil
  | refine wp_tup ?_ | refine wps_cons ?_ ?_ ?_ ?_ | refine mo_tup ?_ | refine mos_cons ?_ ?_)
/-- ends that are told by a value: a bool, a pair -/
local macro_rules | `(tactic| walk_at "e") => `(tactic| first
  | walk_at "d"
  | ((with_reducible refine Exists.intro _ (And.intro rfl ?_))))
section
variable {P : Program} {w : World} {K : PySem.W.Frag} {mg : Str → Option Value} {base : Heap}
/-! ### the law's rides -/
def pr_crowd : Pr := fun ds ob QD => ∃ (x : Dt) (l : List (Int × Int × Int)) (t : Int), ds = [x, .int t] ∧ Sqd ⟨[], ob⟩ x (l.map drider) ∧ l.length ≤ 10 ∧ QD (.lst ((aboard l t).map Dt.int)) ob
theorem len__law_crowd {ds ob Q} (p : pr_crowd ds ob Q) : ds.length = 2 := by obtain ⟨_, _, _, rfl, _⟩ := p; rfl
theorem rid_atI {l : List (Int × Int × Int)} {k : Nat} (h : k < l.length) : atI (l.map drider) ((k : Nat) : Int) = some (drider (l.getD k (0, 0, 0))) := by
  rw [atI_in (by omega) (by rw [List.length_map]; omega)]
  simp [List.getD_eq_getElem?_getD, List.getElem?_eq_getElem h]
theorem sc__law_crowd : FnScope ["_law_folk", "_law_t", "_law_k"] ["_law_folk", "_law_t"] (defScope (topS 101)) := ⟨rfl, rfl, rfl, by decide +kernel, rfl, by decide +kernel, by decide +kernel⟩
theorem ok__law_crowd (T : Txt K mg base) : Cal P w K mg base 1 "_law_crowd" ["_law_folk", "_law_t"] (spD K (pr_crowd)) := by
  refine cal_mk (T.fn "_law_crowd" 101 (by decide +kernel)) sc__law_crowd (fun _ _ _ _ _ _ us hl => match us, hl with | [_, _], _ => rfl) (fun ds ob Q p => len__law_crowd p) fun cdv A outer s H f E hr =>
    ⟨_, (pss_one (ps_ret (pe_lc (own := [("_law_k", 2)]) (g := (gName 2)) rfl sc__law_crowd.nd (pi_range1 (by rfl) (T.free "range" (by decide +kernel)) (pa_cons (pe_cbK (r := DL.rLen K) call_len' boot_len (T.free "len" (by decide +kernel)) (by rfl) (pa_cons (pv 0) pa_nil)) pa_nil)) (blkOk_by (own := [("_law_k", 2)]) (N := ["_law_folk", "_law_t", "_law_k"]) (sc := (defScope (topS 101))) (by decide +kernel)) (fun _ _ _ _ _ => (pg_name (i := 2) sc__law_crowd.nd rfl (Or.inl rfl))) (fun _ _ _ _ _ => (pts_one (pt_chain op_le op_lt (pe_ixK (K := K) rfl (pe_ixK (K := K) rfl (pv 0) (pv 2)) pe_int) (pv 1) (pe_ixK (K := K) rfl (pe_ixK (K := K) rfl (pv 0) (pv 2)) pe_int)))) (fun _ _ _ _ _ => (pv 2))))), fun b ds ob Q p => ?_⟩
  obtain ⟨x, l, t, rfl, hx, hl, q⟩ := p
  simp only [startD, List.map_nil]
  repeat walk_at "d"
  refine de_lcP (by walk_at "w") (by walk_at "w") ?_
  refine di_rng1 ?_
  repeat walk_at "d"
  refine dc_lenB hx ?_
  repeat walk_at "d"
  rw [List.length_map]
  refine ⟨_, rfl, by omega, by omega, by rw [rangeD_len]; omega, fun _ _ => trivial, fun i => decide ((l.getD i (0, 0, 0)).1 ≤ t ∧ t < (l.getD i (0, 0, 0)).2.1), fun i => .int (i : Nat), ?_, ?_⟩
  · intro b i y hy
    obtain ⟨rfl, hi⟩ := rangeD_get hy
    rw [Int.zero_add]
    have hi : i < l.length := by omega
    dsimp only [wipeD, List.map, List.set]
    repeat walk_at "d"
    refine dr_xB hx (rid_atI hi) ?_
    simp only [drider]
    repeat walk_at "d"
    by_cases h1 : (l.getD i (0, 0, 0)).1 ≤ t
    · refine iteT' (decide_eq_true h1) ?_
      repeat walk_at "d"
      refine dr_xB hx (rid_atI hi) ?_
      simp only [drider]
      repeat walk_at "d"
      refine ⟨decide_eq_decide.mpr ⟨fun z => ⟨h1, z⟩, fun z => z.2⟩, ?_⟩
      by_cases h2 : t < (l.getD i (0, 0, 0)).2.1
      · refine iteT' (decide_eq_true h2) ?_
        repeat walk_at "d"
        exact ⟨rfl, rfl⟩
      · exact iteF' (decide_eq_false h2) rfl
    · refine iteF' (decide_eq_false h1) ?_
      repeat walk_at "d"
      refine ⟨(decide_eq_false fun z => h1 z.1).symm, ?_⟩
      exact iteF' rfl rfl
  · have e : ((List.range (rangeD 0 ((l.length : Nat) : Int).toNat).length).filter fun i => decide ((l.getD i (0, 0, 0)).1 ≤ t ∧ t < (l.getD i (0, 0, 0)).2.1)).map (fun i => Dt.int ((i : Nat) : Int)) = (aboard l t).map Dt.int := by
      rw [rangeD_len]
      unfold aboard
      rw [List.map_map]; rfl
    rw [e]
    exact endD_all q
theorem JAt.neD {ob : Own} {a p : Addr} {n : Nat} {l : List (Int × Int × Int)} (h : JAt ob a n) (hp : ob p = some (.lst (l.map drider))) : p ≠ a := by
  rintro rfl
  obtain ⟨x, y, z, e, _⟩ := h
  rw [e] at hp
  cases l <;> simp [jugL, drider] at hp
/-- a drawn ride -/
structure Trp (r : Rid) (most : Int) : Prop where
  ok : RidOk r
  short : (r.costs.length : Int) ≤ most
  cheap : ∀ c ∈ r.costs, 0 ≤ c ∧ c ≤ 40
def dtrip (r : Rid) : Dt := .tup [dcosts r.costs, driders r.riders]
def pr_trip : Pr := fun ds ob QD => ∃ (a : Addr) (n : Nat) (most : Int), ds = [.ptr a, .int most] ∧ JAt ob a n ∧ n ≤ 900000 ∧ 1 ≤ most ∧ most ≤ 5 ∧ ∀ ob' r, JAt ob' a (n + 100) → Kp a ob ob' → Trp r most → QD (dtrip r) ob'
theorem len__law_trip {ds ob Q} (p : pr_trip ds ob Q) : ds.length = 2 := by obtain ⟨_, _, _, rfl, _⟩ := p; rfl
/-- riders so far -/
structure Flk (many : Int) (i : Nat) (l : List (Int × Int × Int)) : Prop where
  few : l.length ≤ i
  some : 0 < i → 0 < l.length
  each : ∀ p ∈ l, RiderOk many p
  room : ∀ t : Nat, (t : Int) < many → (aboard l t).length ≤ 4
theorem ints_of {P : Int → Prop} : ∀ {ys : List Dt}, (∀ y ∈ ys, ∃ i, y = .int i ∧ P i) → ∃ ns : List Int, ys = ns.map Dt.int ∧ ∀ i ∈ ns, P i
  | [], _ => ⟨[], rfl, fun _ h => by cases h⟩
  | y :: ys, h => by
    obtain ⟨i, e, hp⟩ := h y List.mem_cons_self
    obtain ⟨ns, e2, h2⟩ := ints_of (P := P) fun z hz => h z (List.mem_cons_of_mem _ hz)
    exact ⟨i :: ns, by rw [e, e2]; rfl, fun j hj => by
      rcases List.mem_cons.mp hj with z | z
      · rw [z]; exact hp
      · exact h2 j z⟩
theorem mem_at {xs : List Dt} {y : Dt} (h : y ∈ xs) : ∃ i : Nat, xs[i]? = some y := by
  obtain ⟨i, hi, e⟩ := List.mem_iff_getElem.mp h
  exact ⟨i, by rw [List.getElem?_eq_getElem hi, e]⟩
theorem sc__law_trip : FnScope ["_law_jug_here", "_law_most", "_law_many", "_law_prices", "_law_t", "_law_folk", "_law_k", "_law_into", "_law_new"] ["_law_jug_here", "_law_most"] (defScope (topS 102)) := ⟨rfl, rfl, rfl, by decide +kernel, rfl, by decide +kernel, by decide +kernel⟩
theorem ok__law_trip (T : Txt K mg base) : Cal P w K mg base 3 "_law_trip" ["_law_jug_here", "_law_most"] (spD K (pr_trip)) := by
  refine cal_mk (T.fn "_law_trip" 102 (by decide +kernel)) sc__law_trip (fun _ _ _ _ _ _ us hl => match us, hl with | [_, _], _ => rfl) (fun ds ob Q p => len__law_trip p) fun cdv A outer s H f E hr =>
    ⟨_, (pss_cons (ps_set (i := 2) sc__law_trip.nd rfl (.inl rfl) (pe_op op_add pe_int (pe_cal (ok__law_drop (K := K) T) (hr.mono (by decide)) (by rfl) (pa_cons (pv 0) (pa_cons (pv 1) pa_nil)))))
      (pss_cons (ps_setLc (i := 3) (own := [("_law_t", 4)]) (g := (gName 4)) (tt := tYes) rfl sc__law_trip.nd rfl rfl (sw_true rfl rfl rfl (by decide +kernel)) (pi_range1 (by rfl) (T.free "range" (by decide +kernel)) (pa_cons (pv 2) pa_nil)) (blkOk_by (own := [("_law_t", 4)]) (N := ["_law_jug_here", "_law_most", "_law_many", "_law_prices", "_law_t", "_law_folk", "_law_k", "_law_into", "_law_new"]) (sc := (defScope (topS 102))) (by decide +kernel)) (fun _ _ _ _ _ => (pg_name (i := 4) sc__law_trip.nd rfl (Or.inl rfl))) (fun _ _ _ _ _ => pts_nil) (fun _ _ _ _ _ => (pe_cal (ok__law_one (K := K) T) (hr.mono (by decide)) (by rfl) (pa_cons (pv 0) (pa_cons (pe_lst (pa_cons pe_int (pa_cons pe_int (pa_cons pe_int (pa_cons pe_int (pa_cons pe_int (pa_cons (pe_op op_add pe_int (pe_cal (ok__law_drop (K := K) T) (hr.mono (by decide)) (by rfl) (pa_cons (pv 0) (pa_cons pe_int pa_nil)))) pa_nil))))))) pa_nil)))))
      (pss_cons (ps_set (i := 5) sc__law_trip.nd rfl (.inl rfl) (pe_lst pa_nil))
      (pss_cons (ps_for PassesOwn.never rfl (pi_range1 (by rfl) (T.free "range" (by decide +kernel)) (pa_cons (pe_op op_add pe_int (pe_cal (ok__law_drop (K := K) T) (hr.mono (by decide)) (by rfl) (pa_cons (pv 0) (pa_cons pe_int pa_nil)))) pa_nil)) (pg_name (i := 6) sc__law_trip.nd rfl (.inl rfl))
      (pss_cons (ps_set (i := 7) sc__law_trip.nd rfl (.inl rfl) (pe_cal (ok__law_drop (K := K) T) (hr.mono (by decide)) (by rfl) (pa_cons (pv 0) (pa_cons (pv 2) pa_nil))))
      (pss_cons (ps_set (i := 8) sc__law_trip.nd rfl (.inr rfl) (pe_op op_cat (pv 5) (pe_lst (pa_cons (pe_tup (pa_cons (pv 7) (pa_cons (pe_op op_add (pe_op op_add (pv 7) pe_int) (pe_cal (ok__law_drop (K := K) T) (hr.mono (by decide)) (by rfl) (pa_cons (pv 0) (pa_cons (pe_op op_sub (pv 2) (pv 7)) pa_nil)))) (pa_cons (pe_cal (ok__law_drop (K := K) T) (hr.mono (by decide)) (by rfl) (pa_cons (pv 0) (pa_cons pe_int pa_nil))) pa_nil)))) pa_nil))))
      (pss_one (ps_if (pt_val (pe_cbK (r := rAll K) (cr_all rfl) (by decide +kernel) (T.free "all" (by decide +kernel)) (by rfl) (pa_cons (pe_lc (own := [("_law_t", 4)]) (g := (gName 4)) (tt := tYes) rfl sc__law_trip.nd (pi_range1 (by rfl) (T.free "range" (by decide +kernel)) (pa_cons (pv 2) pa_nil)) (blkOk_by (own := [("_law_t", 4)]) (N := ["_law_jug_here", "_law_most", "_law_many", "_law_prices", "_law_t", "_law_folk", "_law_k", "_law_into", "_law_new"]) (sc := (defScope (topS 102))) (by decide +kernel)) (fun _ _ _ _ _ => (pg_name (i := 4) sc__law_trip.nd rfl (Or.inl rfl))) (fun _ _ _ _ _ => pts_nil) (fun _ _ _ _ _ => (pe_cmpR op_le (pe_cbK (r := DL.rLen K) call_len' boot_len (T.free "len" (by decide +kernel)) (by rfl) (pa_cons (pe_cal (ok__law_crowd (K := K) T) (hr.mono (by decide)) (by rfl) (pa_cons (pv 8) (pa_cons (pv 4) pa_nil))) pa_nil)) pe_int (nomark _)))) pa_nil))) (pss_one (ps_set (i := 5) sc__law_trip.nd rfl (.inl rfl) (pv 8))) pss_nil)))))
      (pss_one (ps_ret (pe_tup (pa_cons (pe_ctK (r := DL.rTupleOf K) call_tuple_of' (by decide +kernel) (T.free "tuple" (by decide +kernel)) (by rfl) (pa_cons (pv 3) pa_nil)) (pa_cons (pe_ctK (r := DL.rTupleOf K) call_tuple_of' (by decide +kernel) (T.free "tuple" (by decide +kernel)) (by rfl) (pa_cons (pv 5) pa_nil)) pa_nil))))))))), fun b ds ob Q p => ?_⟩
  obtain ⟨a, n, most, rfl, hj, hn, m1, m5, q⟩ := p
  simp only [startD, List.map_nil]
  repeat walk_at "d"
  refine ⟨a, n, most, rfl, hj, by omega, by omega, by omega, fun o1 v j1 k1 v0 v1 => ?_⟩
  repeat walk_at "d"
  refine de_lcN (by walk_at "w") (by walk_at "w") ?_
  refine di_rng1 ?_
  repeat walk_at "d"
  refine ⟨_, rfl, by omega, by omega, by rw [rangeD_len]; omega, fun i ow => JAt ow a (n + 2 + 4 * i) ∧ Kp a ob ow, fun _ y => ∃ i, y = .int i ∧ 0 ≤ i ∧ i ≤ 40, ⟨j1, k1⟩, fun _ _ _ _ => trivial, ?_, ?_⟩
  · rintro b i x ow hx ⟨j2, k2⟩
    obtain ⟨rfl, hi⟩ := rangeD_get hx
    dsimp only [wipeD, List.map, List.set]
    repeat walk_at "d"
    refine de_lstF ?_
    repeat walk_at "d"
    refine ⟨a, _, 40, rfl, j2, by omega, by decide, by decide, fun o2 u j3 k3 u0 u1 => ?_⟩
    repeat walk_at "d"
    refine ⟨a, _, _, rfl, j3, by omega, by simp, by simp, fun o3 y j4 k4 hy => ?_⟩
    refine ⟨⟨j4.mono (by omega), (k2.trans k3).trans k4⟩, ?_⟩
    simp only [List.mem_cons, List.not_mem_nil, or_false] at hy
    rcases hy with e | e | e | e | e | e
    · exact ⟨_, e, by decide, by decide⟩
    · exact ⟨_, e, by decide, by decide⟩
    · exact ⟨_, e, by decide, by decide⟩
    · exact ⟨_, e, by decide, by decide⟩
    · exact ⟨_, e, by decide, by decide⟩
    · exact ⟨_, e, by omega, by omega⟩
  rintro ys ow ⟨j2, k2⟩ hlen hys
  rw [rangeD_len] at hlen j2
  obtain ⟨cs, rfl, hcs⟩ := ints_of (P := fun i => 0 ≤ i ∧ i ≤ 40) fun y hy => by
    obtain ⟨i, hi⟩ := mem_at hy
    exact hys i y hi
  rw [List.length_map] at hlen
  repeat walk_at "d"
  refine de_lstO ?_
  repeat walk_at "d"
  intro f hf
  repeat walk_at "d"
  refine dx_for (di_rng1 ?_)
  repeat walk_at "d"
  have hfa := j2.ne hf
  refine ⟨a, _, 6, rfl, j2.put hfa, by omega, by decide, by decide, fun o3 w j3 k3 w0 w1 => ?_⟩
  repeat walk_at "d"
  have hmany : (1 + v).toNat = cs.length := by omega
  have hfo : o3 f = some (.lst []) := k3 f _ hfa Own.put_same
  have kall : Kp a ob o3 := (k2.put hf).trans k3
  refine ⟨_, rfl, by omega, by omega, fun i d => ∃ (w x y z : Option Dt) (p : Addr) (l : List (Int × Int × Int)) (ow : Own), d = ⟨[some (.ptr a), some (.int most), some (.int (1 + v)), some (.lst (cs.map Dt.int)), w, some (.ptr p), x, y, z], ow⟩ ∧ ow p = some (.lst (l.map drider)) ∧ JAt ow a (n + 30 + 6 * i) ∧ Kp a ob ow ∧ Flk (1 + v) i l, ?_, fun _ _ _ _ => trivial, ?_, ?_⟩
  · exact ⟨_, _, _, _, f, [], o3, rfl, hfo, j3.mono (by omega), kall, by simp, fun z => absurd z (by omega), (fun p hp => by cases hp), fun t _ => by simp [aboard]⟩
  · rintro i x d hx ⟨x0, x1, x2, x3, p, l, ow, rfl, hp, hj2, hk2, hl⟩
    obtain ⟨rfl, hi⟩ := rangeD_get hx
    have hi : i < 6 := by omega
    repeat walk_at "d"
    refine ⟨a, _, 1 + v, rfl, hj2, by omega, by omega, by omega, fun o4 s j4 k4 s0 s1 => ?_⟩
    have hpa : p ≠ a := hj2.neD hp
    have hp4 := k4 p _ hpa hp
    repeat walk_at "d"
    refine de_lstO ?_
    repeat walk_at "d"
    refine ⟨a, _, 1 + v - s, rfl, j4, by omega, by omega, by omega, fun o5 u j5 k5 u0 u1 => ?_⟩
    have hp5 := k5 p _ hpa hp4
    repeat walk_at "d"
    refine ⟨a, _, 4, rfl, j5, by omega, by decide, by decide, fun o6 g j6 k6 g0 g1 => ?_⟩
    have hp6 := k6 p _ hpa hp5
    repeat walk_at "d"
    intro q hq
    have hqp : p ≠ q := fun z => by rw [← z, hp6] at hq; cases hq
    have hqa := j6.ne hq
    refine dr_cat (by rw [List.length_map]; have := hl.few; simp only [List.length_cons, List.length_nil]; omega) (fun r hr => ?_) ((Own.put_ne hqp).trans hp6) Own.put_same
    have hra := (j6.put hqa).ne hr
    repeat walk_at "d"
    have e1 : l.map drider ++ [Dt.tup [.int s, .int (s + 1 + u), .int g]] = (l ++ [(s, s + 1 + u, g)]).map drider := by rw [List.map_append]; rfl
    rw [e1]
    generalize hnw : l ++ [(s, s + 1 + u, g)] = nw
    have nlen : nw.length = l.length + 1 := by rw [← hnw, List.length_append]; rfl
    have nok : ∀ p ∈ nw, RiderOk (1 + v) p := fun p hp => by
      rw [← hnw] at hp
      rcases List.mem_append.mp hp with z | z
      · exact hl.each p z
      · rw [List.mem_singleton.mp z]
        show 0 ≤ s ∧ s ≤ 1 + v - 1 ∧ s + 1 ≤ s + 1 + u ∧ s + 1 + u ≤ 1 + v ∧ 0 ≤ g ∧ g ≤ 9
        omega
    have jr := (j6.put (l := .lst [Dt.tup [.int s, .int (s + 1 + u), .int g]]) hqa).put (l := .lst (nw.map drider)) hra
    have kr : Kp a ob ((o6.put q (.lst [Dt.tup [.int s, .int (s + 1 + u), .int g]])).put r (.lst (nw.map drider))) := ((((hk2.trans k4).trans k5).trans k6).put hq).put hr
    have hrp : p ≠ r := fun z => by
      have hr : (o6.put q (.lst [Dt.tup [.int s, .int (s + 1 + u), .int g]])) r = none := hr
      rw [← z, Own.put_ne hqp, hp6] at hr; cases hr
    have hpr : ((o6.put q (.lst [Dt.tup [.int s, .int (s + 1 + u), .int g]])).put r (.lst (nw.map drider))) p = some (.lst (l.map drider)) := by
      rw [Own.put_ne hrp, Own.put_ne hqp]; exact hp6
    have hrr : ((o6.put q (.lst [Dt.tup [.int s, .int (s + 1 + u), .int g]])).put r (.lst (nw.map drider))) r = some (.lst (nw.map drider)) := Own.put_same
    generalize ((o6.put q (.lst [Dt.tup [.int s, .int (s + 1 + u), .int g]])).put r (.lst (nw.map drider))) = ow7 at jr kr hpr hrr
    refine de_lcM (by walk_at "w") (by walk_at "w") ?_
    refine di_rng1 ?_
    repeat walk_at "d"
    refine ⟨_, rfl, by omega, by omega, by rw [rangeD_len]; omega, fun _ _ => trivial, fun t => .bl (decide ((aboard nw ((t : Nat) : Int)).length ≤ 4)), ?_, ?_⟩
    · intro b t x hx
      obtain ⟨rfl, ht⟩ := rangeD_get hx
      rw [Int.zero_add]
      dsimp only [wipeD, List.map, List.set]
      repeat walk_at "d"
      refine ⟨_, nw, _, rfl, .inr ⟨r, rfl, hrr⟩, by rw [nlen]; have := hl.few; omega, ?_⟩
      repeat walk_at "d"
      rw [List.length_map]
      exact ⟨rfl, by rw [show decide (((aboard nw ((t : Nat) : Int)).length : Int) ≤ 4) = decide ((aboard nw ((t : Nat) : Int)).length ≤ 4) from decide_eq_decide.mpr (by omega)]⟩
    · rw [rangeD_len, show (List.range (1 + v).toNat).map (fun t => Dt.bl (decide ((aboard nw ((t : Nat) : Int)).length ≤ 4))) = ((List.range (1 + v).toNat).map fun t => decide ((aboard nw ((t : Nat) : Int)).length ≤ 4)).map Dt.bl by rw [List.map_map]; rfl]
      repeat walk_at "d"
      refine dc_all ?_
      repeat walk_at "d"
      cases hall : ((List.range (1 + v).toNat).map fun t => decide ((aboard nw ((t : Nat) : Int)).length ≤ 4)).all id with
      | true =>
        refine iteT' rfl ?_
        repeat walk_at "d"
        refine ⟨_, _, _, _, r, nw, ow7, rfl, hrr, jr.mono (by omega), kr, by rw [nlen]; have := hl.few; omega, fun _ => by omega, nok, fun t ht => ?_⟩
        rw [List.all_map, List.all_eq_true] at hall
        have := hall t (List.mem_range.mpr (by omega))
        exact of_decide_eq_true this
      | false =>
        refine iteF' rfl ?_
        repeat walk_at "d"
        have hl0 : 0 < l.length := by
          by_cases z : 0 < l.length
          · exact z
          · exfalso
            have h1 : nw.length = 1 := by omega
            have h2 : ((List.range (1 + v).toNat).map fun t => decide ((aboard nw ((t : Nat) : Int)).length ≤ 4)).all id = true := by
              rw [List.all_map, List.all_eq_true]
              intro t _
              have := aboard_len nw ((t : Nat) : Int)
              exact decide_eq_true (by omega)
            rw [h2] at hall; cases hall
        refine ⟨_, _, _, _, p, l, ow7, rfl, hpr, jr.mono (by omega), kr, by have := hl.few; omega, fun _ => hl0, hl.each, hl.room⟩
  · rintro d ⟨x0, x1, x2, x3, p, l, ow, rfl, hp, hj2, hk2, hl⟩
    rw [rangeD_len] at hj2 hl
    repeat walk_at "d"
    refine dc_tupO hp ?_
    repeat walk_at "d"
    refine endD_all (q ow ⟨cs, l⟩ (hj2.mono (by omega)) hk2 ⟨⟨⟨by show 1 ≤ cs.length; omega, by show cs.length ≤ 12; omega, fun c hc => by have := hcs c hc; omega⟩, ⟨hl.some (by omega), by have := hl.few; show l.length ≤ 6; omega, fun p hp => ?_⟩, fun t ht => ?_⟩, by show (cs.length : Int) ≤ most; omega, hcs⟩)
    · have e : ((cs.length : Nat) : Int) = 1 + v := by omega
      show RiderOk ((cs.length : Nat) : Int) p
      rw [e]; exact hl.each p hp
    · have ht : t < cs.length := ht
      exact hl.room t (by omega)
def pr_cab (K : PySem.W.Frag) : PrP := fun ds Q => ∃ r : Rid, ds = [dtrip r] ∧ RidOk r ∧ Q (dride K r)
theorem len__law_cab_trip {ds Q} (p : pr_cab K ds Q) : ds.length = 1 := by obtain ⟨_, rfl, _⟩ := p; rfl
theorem sc__law_cab_trip : FnScope ["_law_trip_here"] ["_law_trip_here"] (defScope (topS 103)) := ⟨rfl, rfl, rfl, by decide +kernel, rfl, by decide +kernel, by decide +kernel⟩
theorem ok__law_cab_trip (T : Txt K mg base) : Cal P w K mg base 7 "_law_cab_trip" ["_law_trip_here"] (spP K (pr_cab K)) := by
  refine cal_pure (T.fn "_law_cab_trip" 103 (by decide +kernel)) sc__law_cab_trip (fun _ _ _ _ _ _ us hl => match us, hl with | [_], _ => rfl) (fun ds Q p => len__law_cab_trip p) fun cdv A outer s H f E hr =>
    ⟨_, (pss_one (ps_ret (pe_new (K := K) rfl (ok_Ride___init__ (K := K) T) (hr.mono (by decide)) (by rfl) (pa_cons (pe_ixK (K := K) rfl (pv 0) pe_int) (pa_cons (pe_ixK (K := K) rfl (pv 0) pe_int) pa_nil))))), fun b ds Q p => ?_⟩
  obtain ⟨r, rfl, hr1, q⟩ := p
  simp only [startD, List.map_nil, dtrip]
  repeat walk_at "d"
  refine de_frzI ?_
  refine de_make ?_
  repeat walk_at "d"
  intro y hy
  refine ⟨y, r, rfl, hr1, Own.put_same, rfl, y, _, _, rfl, Own.put_same, ?_⟩
  exact q
end
end Cab
/-! W7c -/
set_option Elab.async false
set_option linter.all false
set_option maxRecDepth 100000
set_option maxHeartbeats 4000000
namespace Cab
open PySem PySem.Spec PyProof.Rows L2 DL
local macro_rules | `(tactic| walk_at "d") => `(tactic| first
  | with_reducible refine dx_seq ?_ | with_reducible refine dx_ret ?_ | with_reducible refine dx_asg ?_ | ((with_reducible refine dg_name ?_); dsimp only [List.set])
  | with_reducible refine de_op ?_ | ((with_reducible refine' de_var ?h1 ?_); (case h1 => exact rfl)) | with_reducible refine de_int ?_ | with_reducible refine da_cons ?_ | with_reducible refine da_nil ?_
  | ((with_reducible refine' dr_xT ?h1 ?_); (case h1 => exact rfl)) | ((with_reducible refine' dr_xL ?h1 ?_); (case h1 => exact rfl)) | with_reducible refine dr_I0 ?_ | with_reducible refine dr_I0b ?_ | with_reducible refine de_callP ?_ | with_reducible refine de_callA ?_
  | with_reducible refine de_cb ?_ | with_reducible refine de_un ?_ | with_reducible refine du_I ?_ | with_reducible refine de_bl ?_ | with_reducible refine de_non ?_ | with_reducible refine de_str ?_ | with_reducible refine de_ty ?_
  | with_reducible refine dr_eqI ?_ | with_reducible refine dr_neI ?_ | with_reducible refine dr_eqS ?_ | with_reducible refine dr_isN ?_ | with_reducible refine dr_notN ?_
  | with_reducible refine dt_and ?_ | with_reducible refine dt_or ?_ | with_reducible refine dt_not ?_ | with_reducible refine de_if ?_ | with_reducible refine de_andV ?_ | with_reducible refine de_orV ?_ | with_reducible refine de_notV ?_
  | ((with_reducible refine dt_test ?_)) | ((with_reducible refine dt_B ?_))
  | with_reducible refine dx_par' ?_ | with_reducible refine dx_par3' ?_ | with_reducible refine ex_bl ?_ | with_reducible refine ex_int ?_ | with_reducible refine isi_int ?_ | with_reducible refine isi_intB ?_ | with_reducible refine isi_tup ?_ | with_reducible refine isi_tupS ?_ | with_reducible refine isi_str ?_ | with_reducible refine de_chain ?_ | with_reducible refine dt_chain ?_ | with_reducible refine iteT ?_ | with_reducible refine iteF ?_ | with_reducible refine dx_if ?_ | with_reducible refine dx_drop ?_ | with_reducible refine dx_cont ?_ | with_reducible refine dx_next ?_
  | with_reducible refine dc_abs ?_ | with_reducible refine dc_lenT ?_ | with_reducible refine dc_lenL ?_ | with_reducible refine dc_int ?_ | with_reducible refine dc_max2 ?_ | with_reducible refine dc_min2 ?_ | with_reducible refine dc_tupL ?_
  | with_reducible refine de_fldF ?_ ?_ ?_ | with_reducible refine de_tup ?_ | ((with_reducible refine len_ok ?h1 ?_); (case h1 => exact rfl))
  | ((with_reducible refine iteT' ?h1 ?_); (case h1 => rfl)) | ((with_reducible refine iteF' ?h1 ?_); (case h1 => rfl))
  | with_reducible refine ex_int2 ?_ | ((with_reducible refine' dg_tup ?h1 ?_); (case h1 => rfl)) | with_reducible refine dgs_cons ?_ | with_reducible refine dgs_nil ?_ | with_reducible refine dc_lenX ?_ | with_reducible refine dr_inX ?_
  | dsimp only [List.set])
/-- a comprehension's targets -/
local macro_rules | `(tactic| walk_at "w") => `(tactic| repeat first
  | exact wp_name (by simp) | exact mo_name | exact wps_nil | exact mos_nil
  | refine wp_tup ?_ | refine wps_cons ?_ ?_ ?_ ?_ | refine mo_tup ?_ | refine mos_cons ?_ ?_)
/-- ends that are told by a value: a bool, a pair -/
local macro_rules | `(tactic| walk_at "e") => `(tactic| first
  | walk_at "d"
  | ((with_reducible refine Exists.intro _ (And.intro rfl ?_))))
section
variable {P : Program} {w : World} {K : PySem.W.Frag} {mg : Str → Option Value} {base : Heap}
/-! ### the law's tables -/
theorem lcM_map {α : Type} {g : α → Dt} (l : List α) (z : α) : (List.range l.length).map (fun i => g (l.getD i z)) = l.map g := by
  apply List.ext_getElem (by simp)
  intro i h1 h2
  simp only [List.length_map, List.length_range] at h1
  simp [List.getD_eq_getElem?_getD, List.getElem?_eq_getElem h1]
theorem dx_seqC {b : Bs} {t u : TS} {d : DL.St} {E : En} {M : DL.St → Prop} (h : DX K b t d { E with nx := M }) (q : ∀ d1, M d1 → DX K b u d1 E) : DX K b (tSeq t u) d E :=
  dx_seq fun F σ H R D k => h F σ H R D ⟨fun σ' H' F' d' s R' m => k.nx σ' H' F' d' s R' (q d' m), k.rt, k.bk, k.ct⟩
def pr_seats : PrP := fun ds Q => ∃ (l : List (Int × Int × Int)) (o : Str) (t : Int), ds = [driders l, .str o, .int t] ∧ l.length ≤ 6 ∧ ∀ ps : List Int, ps.Perm (aboard l t) → Q (.lst (ps.map Dt.int))
theorem len__law_seats {ds Q} (p : pr_seats ds Q) : ds.length = 3 := by obtain ⟨_, _, _, rfl, _⟩ := p; rfl
theorem sc__law_seats : FnScope ["_law_folk", "_law_word", "_law_t", "_law_key", "_law_k"] ["_law_folk", "_law_word", "_law_t"] (defScope (topS 104)) := ⟨rfl, rfl, rfl, by decide +kernel, rfl, by decide +kernel, by decide +kernel⟩
theorem ok__law_seats (T : Txt K mg base) : Cal P w K mg base 2 "_law_seats" ["_law_folk", "_law_word", "_law_t"] (spP K (pr_seats)) := by
  refine cal_pure (T.fn "_law_seats" 104 (by decide +kernel)) sc__law_seats (fun _ _ _ _ _ _ us hl => match us, hl with | [_, _, _], _ => rfl) (fun ds Q p => len__law_seats p) fun cdv A outer s H f E hr =>
    ⟨_, (pss_cons (ps_if (pt_cmpR op_eq (pv 1) pe_str (nomark _)) (pss_one (ps_ret (pe_cal (ok__law_crowd (K := K) T) (hr.mono (by decide)) (by rfl) (pa_cons (pv 0) (pa_cons (pv 2) pa_nil))))) pss_nil)
      (pss_cons (ps_if (pt_cmpR op_eq (pv 1) pe_str (nomark _)) (pss_one (ps_ret (pe_lc (own := [("_law_key", 3)]) (g := (gName 3)) (tt := tYes) rfl sc__law_seats.nd (pi_listK (K := K) rfl (pe_cbK (r := rSortPP K) (cr_sortPPK (K := K) rfl rfl (hu64 hr)) (by decide +kernel) (T.free "sorted" (by decide +kernel)) (by rfl) (pa_cons (pe_lc (own := [("_law_k", 4)]) (g := (gName 4)) (tt := tYes) rfl sc__law_seats.nd (pi_listK (K := K) rfl (pe_cal (ok__law_crowd (K := K) T) (hr.mono (by decide)) (by rfl) (pa_cons (pv 0) (pa_cons (pv 2) pa_nil)))) (blkOk_by (own := [("_law_k", 4)]) (N := ["_law_folk", "_law_word", "_law_t", "_law_key", "_law_k"]) (sc := (defScope (topS 104))) (by decide +kernel)) (fun _ _ _ _ _ => (pg_name (i := 4) sc__law_seats.nd rfl (Or.inl rfl))) (fun _ _ _ _ _ => pts_nil) (fun _ _ _ _ _ => (pe_tup (pa_cons (pe_ixK (K := K) rfl (pe_ixK (K := K) rfl (pv 0) (pv 4)) pe_int) (pa_cons (pv 4) pa_nil))))) pa_nil))) (blkOk_by (own := [("_law_key", 3)]) (N := ["_law_folk", "_law_word", "_law_t", "_law_key", "_law_k"]) (sc := (defScope (topS 104))) (by decide +kernel)) (fun _ _ _ _ _ => (pg_name (i := 3) sc__law_seats.nd rfl (Or.inl rfl))) (fun _ _ _ _ _ => pts_nil) (fun _ _ _ _ _ => (pe_ixK (K := K) rfl (pv 3) pe_int))))) pss_nil)
      (pss_one (ps_ret (pe_lc (own := [("_law_key", 3)]) (g := (gName 3)) (tt := tYes) rfl sc__law_seats.nd (pi_listK (K := K) rfl (pe_cbK (r := rSortPP K) (cr_sortPPK (K := K) rfl rfl (hu64 hr)) (by decide +kernel) (T.free "sorted" (by decide +kernel)) (by rfl) (pa_cons (pe_lc (own := [("_law_k", 4)]) (g := (gName 4)) (tt := tYes) rfl sc__law_seats.nd (pi_listK (K := K) rfl (pe_cal (ok__law_crowd (K := K) T) (hr.mono (by decide)) (by rfl) (pa_cons (pv 0) (pa_cons (pv 2) pa_nil)))) (blkOk_by (own := [("_law_k", 4)]) (N := ["_law_folk", "_law_word", "_law_t", "_law_key", "_law_k"]) (sc := (defScope (topS 104))) (by decide +kernel)) (fun _ _ _ _ _ => (pg_name (i := 4) sc__law_seats.nd rfl (Or.inl rfl))) (fun _ _ _ _ _ => pts_nil) (fun _ _ _ _ _ => (pe_tup (pa_cons (pe_op op_sub pe_int (pe_ixK (K := K) rfl (pe_ixK (K := K) rfl (pv 0) (pv 4)) pe_int)) (pa_cons (pv 4) pa_nil))))) pa_nil))) (blkOk_by (own := [("_law_key", 3)]) (N := ["_law_folk", "_law_word", "_law_t", "_law_key", "_law_k"]) (sc := (defScope (topS 104))) (by decide +kernel)) (fun _ _ _ _ _ => (pg_name (i := 3) sc__law_seats.nd rfl (Or.inl rfl))) (fun _ _ _ _ _ => pts_nil) (fun _ _ _ _ _ => (pe_ixK (K := K) rfl (pv 3) pe_int))))))), fun b ds Q p => ?_⟩
  obtain ⟨l, o, t, rfl, hl, q⟩ := p
  simp only [startD, List.map_nil, driders]
  have hal : (aboard l t).length ≤ 6 := Nat.le_trans (aboard_len l t) hl
  have crowd : ∀ QD : Dt → Own → Prop, QD (.lst ((aboard l t).map Dt.int)) own0 → pr_crowd [.tup (l.map drider), .int t] own0 QD := fun QD h => ⟨_, l, t, rfl, .inl rfl, by omega, h⟩
  have fin : ∀ (ps qs : List (Int × Int)), ps.map (·.2) = aboard l t → qs.Perm ps → Q (.lst ((qs.map (·.2)).map Dt.int)) := fun ps qs h1 h2 => q _ (by rw [← h1]; exact h2.map _)
  repeat walk_at "d"
  by_cases h1 : o = "number"
  · refine iteT' (decide_eq_true h1) ?_
    repeat walk_at "d"
    refine crowd _ ?_
    exact q _ (List.Perm.refl _)
  · refine iteF' (decide_eq_false h1) ?_
    repeat walk_at "d"
    by_cases h2 : o = "sat"
    · refine iteT' (decide_eq_true h2) ?_
      repeat walk_at "d"
      refine de_lcM (by walk_at "w") (by walk_at "w") ?_
      refine di_list ?_
      repeat walk_at "d"
      refine de_lcM (by walk_at "w") (by walk_at "w") ?_
      refine di_list ?_
      repeat walk_at "d"
      refine crowd _ ?_
      refine ⟨_, rfl, by rw [List.length_map]; omega, fun _ _ => trivial, fun i => DL.pairD ((l.getD ((aboard l t).getD i 0).toNat (0, 0, 0)).1, (aboard l t).getD i 0), ?_, ?_⟩
      · intro b i x hx
        obtain ⟨z, hz, rfl⟩ := map_get hx
        obtain ⟨z0, z1⟩ := aboard_mem (List.mem_of_getElem? hz)
        dsimp only [wipeD, List.map, List.set]
        rw [show (aboard l t).getD i 0 = z by rw [List.getD_eq_getElem?_getD, hz]; rfl]
        repeat walk_at "d"
        refine dr_xT (by rw [show z = ((z.toNat : Nat) : Int) by omega]; exact rid_atI z1) ?_
        simp only [drider]
        repeat walk_at "d"
        exact ⟨rfl, rfl⟩
      · rw [List.length_map, lcM_map (g := fun p => DL.pairD ((l.getD p.toNat (0, 0, 0)).1, p)) (aboard l t) 0, show (aboard l t).map (fun p => DL.pairD ((l.getD p.toNat (0, 0, 0)).1, p)) = ((aboard l t).map fun p => ((l.getD p.toNat (0, 0, 0)).1, p)).map DL.pairD by rw [List.map_map]; rfl]
        repeat walk_at "d"
        refine dc_sortPP (by rw [List.length_map]; omega) fun qs hq => ?_
        refine ⟨_, rfl, by rw [List.length_map, hq.length_eq, List.length_map]; omega, fun _ _ => trivial, fun i => .int (qs.getD i (0, 0)).2, ?_, ?_⟩
        · intro b i x hx
          obtain ⟨z, hz, rfl⟩ := map_get hx
          dsimp only [wipeD, List.map, List.set]
          rw [show qs.getD i (0, 0) = z by rw [List.getD_eq_getElem?_getD, hz]; rfl]
          simp only [DL.pairD]
          repeat walk_at "d"
          exact ⟨rfl, rfl⟩
        · rw [List.length_map, lcM_map (g := fun p : Int × Int => Dt.int p.2) qs (0, 0), show qs.map (fun p => Dt.int p.2) = (qs.map (·.2)).map Dt.int by rw [List.map_map]; rfl]
          exact fin _ qs (by rw [List.map_map]; exact List.map_id _) hq
    · refine iteF' (decide_eq_false h2) ?_
      repeat walk_at "d"
      refine de_lcM (by walk_at "w") (by walk_at "w") ?_
      refine di_list ?_
      repeat walk_at "d"
      refine de_lcM (by walk_at "w") (by walk_at "w") ?_
      refine di_list ?_
      repeat walk_at "d"
      refine crowd _ ?_
      refine ⟨_, rfl, by rw [List.length_map]; omega, fun _ _ => trivial, fun i => DL.pairD (0 - (l.getD ((aboard l t).getD i 0).toNat (0, 0, 0)).2.2, (aboard l t).getD i 0), ?_, ?_⟩
      · intro b i x hx
        obtain ⟨z, hz, rfl⟩ := map_get hx
        obtain ⟨z0, z1⟩ := aboard_mem (List.mem_of_getElem? hz)
        dsimp only [wipeD, List.map, List.set]
        rw [show (aboard l t).getD i 0 = z by rw [List.getD_eq_getElem?_getD, hz]; rfl]
        repeat walk_at "d"
        refine dr_xT (by rw [show z = ((z.toNat : Nat) : Int) by omega]; exact rid_atI z1) ?_
        simp only [drider]
        repeat walk_at "d"
        exact ⟨rfl, rfl⟩
      · rw [List.length_map, lcM_map (g := fun p => DL.pairD (0 - (l.getD p.toNat (0, 0, 0)).2.2, p)) (aboard l t) 0, show (aboard l t).map (fun p => DL.pairD (0 - (l.getD p.toNat (0, 0, 0)).2.2, p)) = ((aboard l t).map fun p => (0 - (l.getD p.toNat (0, 0, 0)).2.2, p)).map DL.pairD by rw [List.map_map]; rfl]
        repeat walk_at "d"
        refine dc_sortPP (by rw [List.length_map]; omega) fun qs hq => ?_
        refine ⟨_, rfl, by rw [List.length_map, hq.length_eq, List.length_map]; omega, fun _ _ => trivial, fun i => .int (qs.getD i (0, 0)).2, ?_, ?_⟩
        · intro b i x hx
          obtain ⟨z, hz, rfl⟩ := map_get hx
          dsimp only [wipeD, List.map, List.set]
          rw [show qs.getD i (0, 0) = z by rw [List.getD_eq_getElem?_getD, hz]; rfl]
          simp only [DL.pairD]
          repeat walk_at "d"
          exact ⟨rfl, rfl⟩
        · rw [List.length_map, lcM_map (g := fun p : Int × Int => Dt.int p.2) qs (0, 0), show qs.map (fun p => Dt.int p.2) = (qs.map (·.2)).map Dt.int by rw [List.map_map]; rfl]
          exact fin _ qs (by rw [List.map_map]; exact List.map_id _) hq
/-- a share -/
def ShOk (f : Rat) : Prop := 0 ≤ f ∧ f ≤ 1 ∧ SzR 20 f
def pr_row : Pr := fun ds ob QD => ∃ (a : Addr) (m n : Nat), ds = [.ptr a, .int n] ∧ JAt ob a m ∧ m ≤ 900000 ∧ 1 ≤ n ∧ n ≤ 4 ∧ ∀ ob' (fs : List Rat), JAt ob' a (m + 30) → Kp a ob ob' → fs.length = n → (∀ f ∈ fs, ShOk f) → QD (.tup (fs.map dq)) ob'
theorem len__law_row {ds ob Q} (p : pr_row ds ob Q) : ds.length = 2 := by obtain ⟨_, _, _, rfl, _⟩ := p; rfl
theorem sum_nn : ∀ {l : List Int}, (∀ x ∈ l, 0 ≤ x) → 0 ≤ l.sum
  | [], _ => by simp
  | x :: l, h => by
    rw [List.sum_cons]
    have := h x List.mem_cons_self
    have := sum_nn (l := l) fun y hy => h y (List.mem_cons_of_mem _ hy)
    omega
theorem sum_le {c : Int} : ∀ {l : List Int}, (∀ x ∈ l, x ≤ c) → l.sum ≤ l.length * c
  | [], _ => by simp
  | x :: l, h => by
    rw [List.sum_cons, List.length_cons]
    have := h x List.mem_cons_self
    have := sum_le (l := l) fun y hy => h y (List.mem_cons_of_mem _ hy)
    have e : ((l.length + 1 : Nat) : Int) * c = (l.length : Int) * c + c := by rw [Int.natCast_add, Int.add_mul]; omega
    omega
theorem sum_set_pos : ∀ {l : List Int} {n : Nat} {v : Int}, (∀ x ∈ l, 0 ≤ x) → n < l.length → 0 < v → 0 < (l.set n v).sum
  | x :: l, 0, v, h, _, hv => by
    show 0 < (v :: l).sum
    rw [List.sum_cons]
    have := sum_nn (l := l) fun y hy => h y (List.mem_cons_of_mem _ hy)
    omega
  | x :: l, n + 1, v, h, hn, hv => by
    show 0 < (x :: l.set n v).sum
    rw [List.sum_cons]
    have := sum_set_pos (l := l) (n := n) (fun y hy => h y (List.mem_cons_of_mem _ hy)) (by simpa using hn) hv
    have := h x List.mem_cons_self
    omega
/-- what stands in the row's sum -/
def upN (ws : List Int) (j n : Nat) : List Int := (List.range (n - j)).map fun i => ws.getD (j + i) 0 * (12 / (((j + i : Nat) : Int) + 1))
theorem upN_bd {ws : List Int} (h : ∀ x ∈ ws, 0 ≤ x) : ∀ (k j : Nat), j + k = ws.length → 0 ≤ (upN ws j ws.length).sum ∧ (upN ws j ws.length).sum ≤ 12 * (ws.drop j).sum
  | 0, j, e => by
    have : ws.length - j = 0 := by omega
    unfold upN
    rw [this, List.drop_eq_nil_of_le (by omega)]
    simp
  | k + 1, j, e => by
    obtain ⟨i1, i2⟩ := upN_bd h k (j + 1) (by omega)
    have e1 : upN ws j ws.length = ws.getD j 0 * (12 / (((j : Nat) : Int) + 1)) :: upN ws (j + 1) ws.length := by
      unfold upN
      rw [show ws.length - j = (ws.length - (j + 1)) + 1 by omega, List.range_succ_eq_map, List.map_cons, List.map_map]
      congr 1
      apply List.map_congr_left
      intro i _
      show ws.getD (j + (i + 1)) 0 * (12 / (((j + (i + 1) : Nat) : Int) + 1)) = ws.getD (j + 1 + i) 0 * (12 / (((j + 1 + i : Nat) : Int) + 1))
      rw [show j + (i + 1) = j + 1 + i by omega]
    have hj : j < ws.length := by omega
    have e2 : ws.drop j = ws.getD j 0 :: ws.drop (j + 1) := by
      rw [List.drop_eq_getElem_cons hj, List.getD_eq_getElem?_getD, List.getElem?_eq_getElem hj]; rfl
    rw [e1, e2, List.sum_cons, List.sum_cons]
    have w0 : 0 ≤ ws.getD j 0 := by
      rw [List.getD_eq_getElem?_getD, List.getElem?_eq_getElem hj]; exact h _ (List.getElem_mem hj)
    have d0 : 0 ≤ 12 / (((j : Nat) : Int) + 1) := Int.ediv_nonneg (by decide) (by omega)
    have d1 : 12 / (((j : Nat) : Int) + 1) ≤ 12 := Int.ediv_le_self _ (by decide)
    have p0 := Int.mul_nonneg w0 d0
    have p1 := Int.mul_le_mul_of_nonneg_left d1 w0
    omega
theorem sum_drop_le {ws : List Int} (h : ∀ x ∈ ws, 0 ≤ x) (j : Nat) : (ws.drop j).sum ≤ ws.sum := by
  have e : ws.sum = (ws.take j).sum + (ws.drop j).sum := by rw [← List.sum_append, List.take_append_drop]
  have := sum_nn (l := ws.take j) fun x hx => h x (List.mem_of_mem_take hx)
  omega
theorem divInt_01 {u m : Int} (h0 : 0 ≤ u) (h1 : u ≤ m) (hm : 0 < m) : 0 ≤ Rat.divInt u m ∧ Rat.divInt u m ≤ 1 := by
  have hm' : (0 : Rat) < (m : Rat) := by exact_mod_cast hm
  rw [Rat.divInt_eq_div]
  refine ⟨?_, ?_⟩
  · rw [Rat.div_def]
    exact Rat.mul_nonneg (by exact_mod_cast h0) (Rat.le_of_lt (Rat.inv_pos.mpr hm'))
  · have hi : 0 ≤ (m : Rat)⁻¹ := Rat.le_of_lt (Rat.inv_pos.mpr hm')
    have h2 : (u : Rat) ≤ (m : Rat) := by exact_mod_cast h1
    have h3 := Rat.mul_le_mul_of_nonneg_right h2 hi
    rwa [Rat.mul_inv_cancel _ (fun z => by rw [z] at hm'; exact absurd hm' (by decide)), ← Rat.div_def] at h3
theorem sc__law_row : FnScope ["_law_jug_here", "_law_n", "_law_weights", "_law_k", "_law_found", "_law_j", "_law_up"] ["_law_jug_here", "_law_n"] (defScope (topS 105)) := ⟨rfl, rfl, rfl, by decide +kernel, rfl, by decide +kernel, by decide +kernel⟩
theorem ok__law_row (T : Txt K mg base) : Cal P w K mg base 3 "_law_row" ["_law_jug_here", "_law_n"] (spD K (pr_row)) := by
  refine cal_mk (T.fn "_law_row" 105 (by decide +kernel)) sc__law_row (fun _ _ _ _ _ _ us hl => match us, hl with | [_, _], _ => rfl) (fun ds ob Q p => len__law_row p) fun cdv A outer s H f E hr =>
    ⟨_, (pss_cons (ps_set (i := 2) sc__law_row.nd rfl (.inr rfl) (pe_lc (own := [("_law_k", 3)]) (g := (gName 3)) (tt := tYes) rfl sc__law_row.nd (pi_range1 (by rfl) (T.free "range" (by decide +kernel)) (pa_cons (pv 1) pa_nil)) (blkOk_by (own := [("_law_k", 3)]) (N := ["_law_jug_here", "_law_n", "_law_weights", "_law_k", "_law_found", "_law_j", "_law_up"]) (sc := (defScope (topS 105))) (by decide +kernel)) (fun _ _ _ _ _ => (pg_name (i := 3) sc__law_row.nd rfl (Or.inl rfl))) (fun _ _ _ _ _ => pts_nil) (fun _ _ _ _ _ => (pe_cal (ok__law_one (K := K) T) (hr.mono (by decide)) (by rfl) (pa_cons (pv 0) (pa_cons (pe_lst (pa_cons pe_int (pa_cons pe_int (pa_cons pe_int (pa_cons pe_int (pa_cons pe_int (pa_cons pe_int pa_nil))))))) pa_nil))))))
      (pss_cons (ps_if (pt_cmpR op_eq (pe_cbK (r := rSum K) (cr_sum rfl) (by decide +kernel) (T.free "sum" (by decide +kernel)) (by rfl) (pa_cons (pv 2) pa_nil)) pe_int (nomark _)) (pss_one (ps_asg pe_int (pg_sub (pv 2) (pe_cal (ok__law_drop (K := K) T) (hr.mono (by decide)) (by rfl) (pa_cons (pv 0) (pa_cons (pv 1) pa_nil))) set_list))) pss_nil)
      (pss_cons (ps_set (i := 4) sc__law_row.nd rfl (.inl rfl) (pe_lst pa_nil))
      (pss_cons (ps_for PassesOwn.never rfl (pi_range1 (by rfl) (T.free "range" (by decide +kernel)) (pa_cons (pv 1) pa_nil)) (pg_name (i := 5) sc__law_row.nd rfl (.inl rfl))
      (pss_cons (ps_set (i := 6) sc__law_row.nd rfl (.inl rfl) (pe_cbK (r := rSum K) (cr_sum rfl) (by decide +kernel) (T.free "sum" (by decide +kernel)) (by rfl) (pa_cons (pe_lc (own := [("_law_k", 3)]) (g := (gName 3)) (tt := tYes) rfl sc__law_row.nd (pi_range2 (by rfl) (T.free "range" (by decide +kernel)) (pa_cons (pv 5) (pa_cons (pv 1) pa_nil))) (blkOk_by (own := [("_law_k", 3)]) (N := ["_law_jug_here", "_law_n", "_law_weights", "_law_k", "_law_found", "_law_j", "_law_up"]) (sc := (defScope (topS 105))) (by decide +kernel)) (fun _ _ _ _ _ => (pg_name (i := 3) sc__law_row.nd rfl (Or.inl rfl))) (fun _ _ _ _ _ => pts_nil) (fun _ _ _ _ _ => (pe_op op_mulW (pe_ixK (K := K) rfl (pv 2) (pv 3)) (pe_op op_fdivW pe_int (pe_op op_add (pv 3) pe_int))))) pa_nil)))
      (pss_one (ps_expr (pe_appK (K := K) rfl (pv 4) (pe_cal (ok__law_low (K := K) T) (hr.mono (by decide)) (by rfl) (pa_cons (pv 6) (pa_cons (pe_op op_mulW pe_int (pe_cbK (r := rSum K) (cr_sum rfl) (by decide +kernel) (T.free "sum" (by decide +kernel)) (by rfl) (pa_cons (pv 2) pa_nil))) pa_nil))))))))
      (pss_one (ps_ret (pe_ctK (r := DL.rTupleOf K) call_tuple_of' (by decide +kernel) (T.free "tuple" (by decide +kernel)) (by rfl) (pa_cons (pv 4) pa_nil)))))))), fun b ds ob Q p => ?_⟩
  obtain ⟨a, m, n, rfl, hj, hm, h1, h4, q⟩ := p
  simp only [startD, List.map_nil]
  repeat walk_at "d"
  refine de_lcNO (by walk_at "w") (by walk_at "w") ?_
  refine di_rng1 ?_
  repeat walk_at "d"
  refine ⟨_, rfl, by omega, by omega, by rw [rangeD_len]; omega, fun i ow => JAt ow a (m + 2 * i) ∧ Kp a ob ow, fun _ y => ∃ i, y = .int i ∧ 0 ≤ i ∧ i ≤ 5, ⟨hj, Kp.refl⟩, fun _ _ _ _ => trivial, ?_, ?_⟩
  · rintro b i x ow hx ⟨j2, k2⟩
    obtain ⟨rfl, hi⟩ := rangeD_get hx
    dsimp only [wipeD, List.map, List.set]
    repeat walk_at "d"
    refine de_lstF ?_
    repeat walk_at "d"
    refine ⟨a, _, _, rfl, j2, by omega, by decide, by decide, fun o3 y j4 k4 hy => ?_⟩
    refine ⟨⟨j4, k2.trans k4⟩, ?_⟩
    simp only [List.mem_cons, List.not_mem_nil, or_false] at hy
    rcases hy with e | e | e | e | e | e <;> exact ⟨_, e, by decide, by decide⟩
  rintro ys ow ⟨j2, k2⟩ hlen hys
  rw [rangeD_len] at hlen j2
  obtain ⟨ws, rfl, hws⟩ := ints_of (P := fun i => 0 ≤ i ∧ i ≤ 5) fun y hy => by
    obtain ⟨i, hi⟩ := mem_at hy
    exact hys i y hi
  rw [List.length_map] at hlen
  have hwl : ws.length = n := by omega
  intro p hp
  have hpa := j2.ne hp
  have hpo := k2.none hp hpa
  refine dg_name ?_
  dsimp only [List.set]
  refine dx_seqC (M := fun d => ∃ (ws : List Int) (ow : Own), d = ⟨[some (.ptr a), some (.int (n : Nat)), some (.ptr p), none, none, none, none], ow⟩ ∧ ow p = some (.lst (ws.map Dt.int)) ∧ ws.length = n ∧ (∀ x ∈ ws, 0 ≤ x ∧ x ≤ 5) ∧ 0 < ws.sum ∧ JAt ow a (m + 12) ∧ Kp a ob ow) ?_ ?_
  · repeat walk_at "d"
    refine dc_sumO Own.put_same ?_
    repeat walk_at "d"
    have hnn := sum_nn fun x hx => (hws x hx).1
    by_cases h0 : ws.sum = 0
    · refine iteT' (decide_eq_true h0) ?_
      repeat walk_at "d"
      refine dg_sub ?_
      repeat walk_at "d"
      refine ⟨a, _, _, rfl, j2.put hpa, by omega, by omega, by omega, fun o3 v j3 k3 v0 v1 => ?_⟩
      have hp3 := k3 p _ hpa Own.put_same
      have hv : v.toNat < ws.length := by omega
      refine ⟨p, _, v, v.toNat, rfl, hp3, rfl, ?_, ?_⟩
      · unfold ixN; rw [List.length_map, if_pos (by omega), if_pos (by omega)]
      · refine ⟨ws.set v.toNat 1, _, rfl, ?_, by rw [List.length_set]; exact hwl, fun x hx => ?_, sum_set_pos (fun x hx => (hws x hx).1) hv (by decide), (j3.put hpa).mono (by omega), ((k2.put hp).trans k3).putO hpo⟩
        · rw [Own.put_same, List.map_set]
        · rcases List.mem_or_eq_of_mem_set hx with z | z
          · exact hws x z
          · rw [z]; decide
    · refine iteF' (decide_eq_false h0) ?_
      repeat walk_at "d"
      exact ⟨ws, _, rfl, Own.put_same, hwl, hws, by omega, (j2.put hpa).mono (by omega), k2.put hp⟩
  · rintro d ⟨ws, ow, rfl, hp, hwl, hws, hpos, j2, k2⟩
    have hsle : ws.sum ≤ 20 := by
      have := sum_le (l := ws) (c := 5) fun x hx => (hws x hx).2
      omega
    repeat walk_at "d"
    refine de_lstO ?_
    repeat walk_at "d"
    intro f hf
    have hf0 : ow f = none := hf
    have hfp : f ≠ p := fun z => by rw [z] at hf; rw [show ow p = none from hf] at hp; cases hp
    have hfa := j2.ne hf
    repeat walk_at "d"
    refine dx_for (di_rng1 ?_)
    repeat walk_at "d"
    refine ⟨_, rfl, by omega, by omega, fun i d => ∃ (x y z : Option Dt) (ow : Own) (fs : List Rat), d = ⟨[some (.ptr a), some (.int (n : Nat)), some (.ptr p), x, some (.ptr f), y, z], ow⟩ ∧ ow p = some (.lst (ws.map Dt.int)) ∧ ow f = some (.lst (fs.map dq)) ∧ fs.length = i ∧ (∀ f ∈ fs, ShOk f) ∧ JAt ow a (m + 12) ∧ Kp a ob ow, ?_, fun _ _ _ _ => trivial, ?_, ?_⟩
    · exact ⟨_, _, _, _, [], rfl, (Own.put_ne hfp.symm).trans hp, Own.put_same, rfl, (fun f hf => by cases hf), j2.put hfa, k2.put hf⟩
    · rintro i x d hx ⟨x1, x2, x3, ow, fs, rfl, hp, hf, hfl, hfs, j3, k3⟩
      obtain ⟨rfl, hi⟩ := rangeD_get hx
      have hi : i < n := by omega
      repeat walk_at "d"
      refine de_lcM (by walk_at "w") (by walk_at "w") ?_
      refine di_rng2 ?_
      repeat walk_at "d"
      have hr : (((n : Nat) : Int) - (0 + (i : Int))).toNat = n - i := by omega
      refine ⟨_, _, rfl, by omega, by rw [rangeD_len]; omega, fun _ _ => trivial, fun k => .int (ws.getD (i + k) 0 * (12 / (((i + k : Nat) : Int) + 1))), ?_, ?_⟩
      · intro b k y hy
        obtain ⟨rfl, hk⟩ := rangeD_get hy
        rw [hr] at hk
        rw [show (0 + (i : Int) + (k : Int)) = ((i + k : Nat) : Int) by omega]
        dsimp only [wipeD, List.map, List.set]
        have w := hws (ws.getD (i + k) 0) (by rw [List.getD_eq_getElem?_getD, List.getElem?_eq_getElem (by omega)]; exact List.getElem_mem _)
        repeat walk_at "d"
        refine dr_xO hp (jug_atI (by omega) (by omega)) ?_
        repeat walk_at "d"
        refine dr_I (smallW (by omega) (by omega)) ?_
        repeat walk_at "d"
        have d0 : 0 ≤ 12 / (((i + k : Nat) : Int) + 1) := Int.ediv_nonneg (by decide) (by omega)
        have d1 : 12 / (((i + k : Nat) : Int) + 1) ≤ 12 := Int.ediv_le_self _ (by decide)
        refine dr_I (wmul (a := 20) (c := 20) (by rw [Int.toNat_natCast]; omega) (by omega)) ?_
        exact ⟨rfl, rfl⟩
      · rw [rangeD_len, hr, show (List.range (n - i)).map (fun k => Dt.int (ws.getD (i + k) 0 * (12 / (((i + k : Nat) : Int) + 1)))) = (upN ws i ws.length).map Dt.int by unfold upN; rw [List.map_map, hwl]; rfl]
        obtain ⟨u0, u1⟩ := upN_bd (fun x hx => (hws x hx).1) (ws.length - i) i (by omega)
        have u2 := sum_drop_le (fun x hx => (hws x hx).1) i
        generalize (upN ws i ws.length) = up at u0 u1
        repeat walk_at "d"
        refine dc_sumL ?_
        repeat walk_at "d"
        refine de_append ?_
        repeat walk_at "d"
        refine ⟨f, _, rfl, hf, ?_⟩
        repeat walk_at "d"
        refine dc_sumO hp ?_
        repeat walk_at "d"
        refine dr_I (wmul (a := 20) (c := 20) (by decide) (by omega)) ?_
        repeat walk_at "d"
        refine ⟨_, _, rfl, by omega, Nat.lt_of_lt_of_le (show (12 * ws.sum).natAbs < 2 ^ 20 by omega) (Nat.pow_le_pow_right (by decide) (by decide)), ?_⟩
        refine ⟨_, hf, by rw [List.length_map]; omega, ?_⟩
        obtain ⟨s0, s1⟩ := divInt_01 (m := 12 * ws.sum) u0 (by omega) (by omega)
        have hfn : f ≠ p := hfp
        refine ⟨_, _, _, _, fs ++ [Rat.divInt up.sum (12 * ws.sum)], rfl, (Own.put_ne hfp.symm).trans hp, ?_, by rw [List.length_append, hfl]; rfl, fun g hg => ?_, j3.put hfa, k3.putO (k2.none hf0 hfa)⟩
        · rw [Own.put_same, List.map_append]; rfl
        · rcases List.mem_append.mp hg with z | z
          · exact hfs g z
          · rw [List.mem_singleton.mp z]
            exact ⟨s0, s1, szR_div (by omega) (by omega) (by omega)⟩
    · rintro d ⟨x1, x2, x3, ow, fs, rfl, hp, hf, hfl, hfs, j3, k3⟩
      rw [rangeD_len] at hfl
      repeat walk_at "d"
      refine dc_tupO hf ?_
      exact endD_all (q _ fs (j3.mono (by omega)) k3 (by omega) hfs)
end
end Cab
/-! W7d -/
set_option Elab.async false
set_option linter.all false
set_option maxRecDepth 100000
set_option maxHeartbeats 4000000
namespace Cab
open PySem PySem.Spec PyProof.Rows L2 DL
local macro_rules | `(tactic| walk_at "d") => `(tactic| first
  | with_reducible refine dx_seq ?_ | with_reducible refine dx_ret ?_ | with_reducible refine dx_asg ?_ | ((with_reducible refine dg_name ?_); dsimp only [List.set])
  | with_reducible refine de_op ?_ | ((with_reducible refine' de_var ?h1 ?_); (case h1 => exact rfl)) | with_reducible refine de_int ?_ | with_reducible refine da_cons ?_ | with_reducible refine da_nil ?_
  | ((with_reducible refine' dr_xT ?h1 ?_); (case h1 => exact rfl)) | ((with_reducible refine' dr_xL ?h1 ?_); (case h1 => exact rfl)) | with_reducible refine dr_I0 ?_ | with_reducible refine dr_I0b ?_ | with_reducible refine de_callP ?_ | with_reducible refine de_callA ?_
  | with_reducible refine de_cb ?_ | with_reducible refine de_un ?_ | with_reducible refine du_I ?_ | with_reducible refine de_bl ?_ | with_reducible refine de_non ?_ | with_reducible refine de_str ?_ | with_reducible refine de_ty ?_
  | with_reducible refine dr_eqI ?_ | with_reducible refine dr_neI ?_ | with_reducible refine dr_eqS ?_ | with_reducible refine dr_isN ?_ | with_reducible refine dr_notN ?_
  | with_reducible refine dt_and ?_ | with_reducible refine dt_or ?_ | with_reducible refine dt_not ?_ | with_reducible refine de_if ?_ | with_reducible refine de_andV ?_ | with_reducible refine de_orV ?_ | with_reducible refine de_notV ?_
  | ((with_reducible refine dt_test ?_)) | ((with_reducible refine dt_B ?_))
  | with_reducible refine dx_par' ?_ | with_reducible refine dx_par3' ?_ | with_reducible refine ex_bl ?_ | with_reducible refine ex_int ?_ | with_reducible refine isi_int ?_ | with_reducible refine isi_intB ?_ | with_reducible refine isi_tup ?_ | with_reducible refine isi_tupS ?_ | with_reducible refine isi_str ?_ | with_reducible refine de_chain ?_ | with_reducible refine dt_chain ?_ | with_reducible refine iteT ?_ | with_reducible refine iteF ?_ | with_reducible refine dx_if ?_ | with_reducible refine dx_drop ?_ | with_reducible refine dx_cont ?_ | with_reducible refine dx_next ?_
  | with_reducible refine dc_abs ?_ | with_reducible refine dc_lenT ?_ | with_reducible refine dc_lenL ?_ | with_reducible refine dc_int ?_ | with_reducible refine dc_max2 ?_ | with_reducible refine dc_min2 ?_ | with_reducible refine dc_tupL ?_
  | with_reducible refine de_fldF ?_ ?_ ?_ | with_reducible refine de_tup ?_ | ((with_reducible refine len_ok ?h1 ?_); (case h1 => exact rfl))
  | ((with_reducible refine iteT' ?h1 ?_); (case h1 => rfl)) | ((with_reducible refine iteF' ?h1 ?_); (case h1 => rfl))
  | with_reducible refine ex_int2 ?_ | ((with_reducible refine' dg_tup ?h1 ?_); (case h1 => rfl)) | with_reducible refine dgs_cons ?_ | with_reducible refine dgs_nil ?_ | with_reducible refine dc_lenX ?_ | with_reducible refine dr_inX ?_
  | dsimp only [List.set])
/-- a comprehension's targets -/
local macro_rules | `(tactic| walk_at "w") => `(tactic| repeat first
  | exact wp_name (by simp) | exact mo_name | exact wps_nil | exact mos_nil
  | refine wp_tup ?_ | refine wps_cons ?_ ?_ ?_ ?_ | refine mo_tup ?_ | refine mos_cons ?_ ?_)
/-- ends that are told by a value: a bool, a pair -/
local macro_rules | `(tactic| walk_at "e") => `(tactic| first
  | walk_at "d"
  | ((with_reducible refine Exists.intro _ (And.intro rfl ?_))))
section
variable {P : Program} {w : World} {K : PySem.W.Frag} {mg : Str → Option Value} {base : Heap}
/-! ### the law's table, its fares -/
def ShT (t : List (List Rat)) : Prop := t.length = 4 ∧ ∀ (i : Nat) r, t[i]? = some r → r.length = i + 1 ∧ ∀ f ∈ r, ShOk f
theorem rows_of : ∀ {ys : List Dt} {k : Nat}, (∀ (i : Nat) y, ys[i]? = some y → ∃ fs : List Rat, y = drow fs ∧ fs.length = k + i + 1 ∧ ∀ f ∈ fs, ShOk f) → ∃ t : List (List Rat), ys = t.map drow ∧ ∀ (i : Nat) r, t[i]? = some r → r.length = k + i + 1 ∧ ∀ f ∈ r, ShOk f
  | [], _, _ => ⟨[], rfl, fun i r h => by cases h⟩
  | y :: ys, k, h => by
    obtain ⟨fs, e, h1, h2⟩ := h 0 y rfl
    obtain ⟨t, e2, h3⟩ := rows_of (ys := ys) (k := k + 1) fun i z hz => by
      obtain ⟨gs, e3, h4, h5⟩ := h (i + 1) z hz
      exact ⟨gs, e3, by omega, h5⟩
    refine ⟨fs :: t, by rw [e, e2]; rfl, fun i r hr => ?_⟩
    cases i with
    | zero =>
      have : fs = r := by simpa using hr
      subst this; exact ⟨h1, h2⟩
    | succ i =>
      obtain ⟨h6, h7⟩ := h3 i r (by simpa using hr)
      exact ⟨by omega, h7⟩
def pr_shares : Pr := fun ds ob QD => ∃ (a : Addr) (m : Nat), ds = [.ptr a] ∧ JAt ob a m ∧ m ≤ 800000 ∧ ∀ ob' t, JAt ob' a (m + 120) → Kp a ob ob' → ShT t → QD (.tup (t.map drow)) ob'
theorem len__law_shares {ds ob Q} (p : pr_shares ds ob Q) : ds.length = 1 := by obtain ⟨_, _, rfl, _⟩ := p; rfl
theorem sc__law_shares : FnScope ["_law_jug_here", "_law_n"] ["_law_jug_here"] (defScope (topS 106)) := ⟨rfl, rfl, rfl, by decide +kernel, rfl, by decide +kernel, by decide +kernel⟩
theorem ok__law_shares (T : Txt K mg base) : Cal P w K mg base 4 "_law_shares" ["_law_jug_here"] (spD K (pr_shares)) := by
  refine cal_mk (T.fn "_law_shares" 106 (by decide +kernel)) sc__law_shares (fun _ _ _ _ _ _ us hl => match us, hl with | [_], _ => rfl) (fun ds ob Q p => len__law_shares p) fun cdv A outer s H f E hr =>
    ⟨_, (pss_one (ps_ret (pe_ctK (r := DL.rTupleOf K) call_tuple_of' (by decide +kernel) (T.free "tuple" (by decide +kernel)) (by rfl) (pa_cons (pe_lc (own := [("_law_n", 1)]) (g := (gName 1)) (tt := tYes) rfl sc__law_shares.nd (pi_listK (K := K) rfl (pe_lst (pa_cons pe_int (pa_cons pe_int (pa_cons pe_int (pa_cons pe_int pa_nil)))))) (blkOk_by (own := [("_law_n", 1)]) (N := ["_law_jug_here", "_law_n"]) (sc := (defScope (topS 106))) (by decide +kernel)) (fun _ _ _ _ _ => (pg_name (i := 1) sc__law_shares.nd rfl (Or.inl rfl))) (fun _ _ _ _ _ => pts_nil) (fun _ _ _ _ _ => (pe_cal (ok__law_row (K := K) T) (hr.mono (by decide)) (by rfl) (pa_cons (pv 0) (pa_cons (pv 1) pa_nil))))) pa_nil)))), fun b ds ob Q p => ?_⟩
  obtain ⟨a, m, rfl, hj, hm, q⟩ := p
  simp only [startD, List.map_nil]
  repeat walk_at "d"
  refine de_lcN (by walk_at "w") (by walk_at "w") ?_
  refine di_list ?_
  refine de_lstF ?_
  repeat walk_at "d"
  refine ⟨_, rfl, by decide, fun i ow => JAt ow a (m + 30 * i) ∧ Kp a ob ow, fun i y => ∃ fs : List Rat, y = drow fs ∧ fs.length = 0 + i + 1 ∧ ∀ f ∈ fs, ShOk f, ⟨hj, Kp.refl⟩, fun _ _ _ _ => trivial, ?_, ?_⟩
  · rintro b i x ow hx ⟨j2, k2⟩
    have hi : i < 4 := (List.getElem?_eq_some_iff.mp hx).1
    have ex : x = .int ((i + 1 : Nat) : Int) := by
      have : i = 0 ∨ i = 1 ∨ i = 2 ∨ i = 3 := by omega
      rcases this with e | e | e | e <;> (subst e; exact (Option.some.inj hx).symm)
    subst ex
    dsimp only [wipeD, List.map, List.set]
    repeat walk_at "d"
    refine ⟨a, _, i + 1, rfl, j2, by omega, by omega, by omega, fun o3 fs j3 k3 hl hf => ?_⟩
    exact ⟨⟨j3.mono (by omega), k2.trans k3⟩, fs, rfl, by omega, hf⟩
  · rintro ys ow ⟨j2, k2⟩ hlen hys
    obtain ⟨t, rfl, ht⟩ := rows_of hys
    rw [List.length_map] at hlen
    refine da_nil ?_
    refine dc_tupL ?_
    refine endD_all (q ow t (j2.mono (by simp)) k2 ⟨hlen, fun i r hr => ?_⟩)
    obtain ⟨h1, h2⟩ := ht i r hr
    exact ⟨by omega, h2⟩
def FrOk (m : Nat) (f : Rat) : Prop := 0 ≤ f ∧ f ≤ ((40 * m : Nat) : Rat) ∧ SzR (1 + 27 * m) f
def pr_lfares : PrP := fun ds Q => ∃ (r : Rid) (o : Str) (t : List (List Rat)), ds = [dtrip r, .str o, .tup (t.map drow)] ∧ Trp r 3 ∧ ShT t ∧ ∀ fs : List Rat, fs.length = r.riders.length → (∀ f ∈ fs, FrOk 12 f) → Q (.tup (fs.map dq))
theorem len__law_fares {ds Q} (p : pr_lfares ds Q) : ds.length = 3 := by obtain ⟨_, _, _, rfl, _⟩ := p; rfl
theorem FrOk.up {m n : Nat} {f : Rat} (h : FrOk m f) (e : m ≤ n) : FrOk n f := by
  refine ⟨h.1, Rat.le_trans h.2.1 ?_, h.2.2.up (by omega)⟩
  have : 40 * m ≤ 40 * n := by omega
  exact_mod_cast this
theorem FrOk.add {m : Nat} {f g : Rat} {c : Int} (h : FrOk m f) (k : ShOk g) (c0 : 0 ≤ c) (c1 : c ≤ 40) : FrOk (m + 1) (f + (c : Rat) * g) := by
  have hc : (0 : Rat) ≤ (c : Rat) := by exact_mod_cast c0
  have hc1 : (c : Rat) ≤ 40 := by exact_mod_cast c1
  refine ⟨?_, ?_, ?_⟩
  · have := Rat.mul_nonneg hc k.1
    have := h.1
    grind
  · have h1 := Rat.mul_le_mul_of_nonneg_left k.2.1 hc
    have h2 := h.2.1
    have e : (((40 * (m + 1) : Nat) : Rat)) = ((40 * m : Nat) : Rat) + 40 := by
      rw [show 40 * (m + 1) = 40 * m + 40 by omega]
      exact_mod_cast rfl
    rw [e]
    grind
  · have h1 := h.2.2.add (SzR.mul (n := 6) (k := c) (by omega) k.2.2)
    exact h1.up (by omega)
theorem dtrip_eq (r : Rid) : dtrip r = .tup [.tup (r.costs.map Dt.int), .tup (r.riders.map drider)] := rfl
theorem row_atI {t : List (List Rat)} {k : Nat} (h : k < t.length) : atI (t.map drow) ((k : Nat) : Int) = some (drow (t.getD k [])) := by
  rw [atI_in (by omega) (by rw [List.length_map]; omega)]
  simp [List.getD_eq_getElem?_getD, List.getElem?_eq_getElem h]
theorem dq_atI {t : List Rat} {k : Nat} (h : k < t.length) : atI (t.map dq) ((k : Nat) : Int) = some (dq (t.getD k 0)) := by
  rw [atI_in (by omega) (by rw [List.length_map]; omega)]
  simp [List.getD_eq_getElem?_getD, List.getElem?_eq_getElem h]
theorem int_atI {t : List Int} {k : Nat} (h : k < t.length) : atI (t.map Dt.int) ((k : Nat) : Int) = some (.int (t.getD k 0)) := by
  rw [atI_in (by omega) (by rw [List.length_map]; omega)]
  simp [List.getD_eq_getElem?_getD, List.getElem?_eq_getElem h]
theorem getD_mem {α : Type} {l : List α} {k : Nat} {z : α} (h : k < l.length) : l.getD k z ∈ l := by
  rw [List.getD_eq_getElem?_getD, List.getElem?_eq_getElem h]; exact List.getElem_mem h
theorem getD_get {α : Type} {l : List α} {k : Nat} {z : α} (h : k < l.length) : l[k]? = some (l.getD k z) := by
  rw [List.getD_eq_getElem?_getD, List.getElem?_eq_getElem h]; rfl
theorem sc__law_fares : FnScope ["_law_trip_here", "_law_word", "_law_rows", "_law_found", "_law_t", "_law_seats_here", "_law_j", "_law_share"] ["_law_trip_here", "_law_word", "_law_rows"] (defScope (topS 107)) := ⟨rfl, rfl, rfl, by decide +kernel, rfl, by decide +kernel, by decide +kernel⟩
theorem ok__law_fares (T : Txt K mg base) : Cal P w K mg base 4 "_law_fares" ["_law_trip_here", "_law_word", "_law_rows"] (spP K (pr_lfares)) := by
  refine cal_pure (T.fn "_law_fares" 107 (by decide +kernel)) sc__law_fares (fun _ _ _ _ _ _ us hl => match us, hl with | [_, _, _], _ => rfl) (fun ds Q p => len__law_fares p) fun cdv A outer s H f E hr =>
    ⟨_, (pss_cons (ps_set (i := 3) sc__law_fares.nd rfl (.inl rfl) (pe_op op_rep (pe_lst (pa_cons (pe_tup (pa_cons pe_int (pa_cons pe_int pa_nil))) pa_nil)) (pe_cbK (r := DL.rLen K) call_len' boot_len (T.free "len" (by decide +kernel)) (by rfl) (pa_cons (pe_ixK (K := K) rfl (pv 0) pe_int) pa_nil))))
      (pss_cons (ps_for PassesOwn.never rfl (pi_range1 (by rfl) (T.free "range" (by decide +kernel)) (pa_cons (pe_cbK (r := DL.rLen K) call_len' boot_len (T.free "len" (by decide +kernel)) (by rfl) (pa_cons (pe_ixK (K := K) rfl (pv 0) pe_int) pa_nil)) pa_nil)) (pg_name (i := 4) sc__law_fares.nd rfl (.inl rfl))
      (pss_cons (ps_set (i := 5) sc__law_fares.nd rfl (.inl rfl) (pe_cal (ok__law_seats (K := K) T) (hr.mono (by decide)) (by rfl) (pa_cons (pe_ixK (K := K) rfl (pv 0) pe_int) (pa_cons (pv 1) (pa_cons (pv 4) pa_nil)))))
      (pss_one (ps_for PassesOwn.never rfl (pi_range1 (by rfl) (T.free "range" (by decide +kernel)) (pa_cons (pe_cbK (r := DL.rLen K) call_len' boot_len (T.free "len" (by decide +kernel)) (by rfl) (pa_cons (pv 5) pa_nil)) pa_nil)) (pg_name (i := 6) sc__law_fares.nd rfl (.inl rfl))
      (pss_cons (ps_set (i := 7) sc__law_fares.nd rfl (.inl rfl) (pe_ixK (K := K) rfl (pe_ixK (K := K) rfl (pv 2) (pe_op op_sub (pe_cbK (r := DL.rLen K) call_len' boot_len (T.free "len" (by decide +kernel)) (by rfl) (pa_cons (pv 5) pa_nil)) pe_int)) (pv 6)))
      (pss_one (ps_asg (pe_cal (ok__law_add (K := K) T) (hr.mono (by decide)) (by rfl) (pa_cons (pe_ixK (K := K) rfl (pv 3) (pe_ixK (K := K) rfl (pv 5) (pv 6))) (pa_cons (pe_cal (ok__law_low (K := K) T) (hr.mono (by decide)) (by rfl) (pa_cons (pe_op op_mulW (pe_ixK (K := K) rfl (pe_ixK (K := K) rfl (pv 0) pe_int) (pv 4)) (pe_ixK (K := K) rfl (pv 7) pe_int)) (pa_cons (pe_ixK (K := K) rfl (pv 7) pe_int) pa_nil))) pa_nil))) (pg_sub (pv 3) (pe_ixK (K := K) rfl (pv 5) (pv 6)) set_list))))))))
      (pss_one (ps_ret (pe_ctK (r := DL.rTupleOf K) call_tuple_of' (by decide +kernel) (T.free "tuple" (by decide +kernel)) (by rfl) (pa_cons (pv 3) pa_nil)))))), fun b ds Q p => ?_⟩
  obtain ⟨r, o, t, rfl, hr1, ht, q⟩ := p
  have hl3 : r.costs.length ≤ 3 := by have := hr1.short; omega
  have hrl := hr1.ok.2.1.2.1
  simp only [startD, List.map_nil, dtrip_eq]
  repeat walk_at "d"
  refine de_lstO ?_
  repeat walk_at "d"
  intro p hp
  repeat walk_at "d"
  rw [List.length_map]
  refine dr_rep (n := (r.riders.length : Int)) Own.put_same (by omega) (by rw [Int.toNat_natCast]; simp only [List.length_cons, List.length_nil]; omega) (by omega) fun f hf => ?_
  repeat walk_at "d"
  have e0 : (List.replicate (r.riders.length : Int).toNat [Dt.tup [.int 0, .int 1]]).flatten = (List.replicate r.riders.length (0 : Rat)).map dq := by
    rw [Int.toNat_natCast, List.map_replicate]
    show (List.replicate r.riders.length [dq 0]).flatten = _
    simp
  rw [e0]
  have z0 : FrOk 0 0 := ⟨by decide, by decide, by decide, by decide⟩
  refine dx_for (di_rng1 ?_)
  repeat walk_at "d"
  rw [List.length_map]
  refine ⟨_, rfl, by omega, by omega, fun i d => ∃ (x y z u : Option Dt) (ow : Own) (fs : List Rat), d = ⟨[some (.tup [.tup (r.costs.map Dt.int), .tup (r.riders.map drider)]), some (.str o), some (.tup (t.map drow)), some (.ptr f), x, y, z, u], ow⟩ ∧ ow f = some (.lst (fs.map dq)) ∧ fs.length = r.riders.length ∧ ∀ g ∈ fs, FrOk (4 * i) g, ?_, fun _ _ _ _ => trivial, ?_, ?_⟩
  · exact ⟨_, _, _, _, _, List.replicate r.riders.length 0, rfl, Own.put_same, by simp, fun g hg => by rw [List.eq_of_mem_replicate hg]; exact z0⟩
  · rintro i x d hx ⟨x1, x2, x3, x4, ow, fs, rfl, hf, hfl, hfs⟩
    obtain ⟨rfl, hi⟩ := rangeD_get hx
    rw [Int.zero_add]
    have hi : i < r.costs.length := by omega
    repeat walk_at "d"
    refine ⟨r.riders, o, _, rfl, by omega, fun ps hps => ?_⟩
    have hp4 : ps.length ≤ 4 := by rw [hps.length_eq]; exact hr1.ok.2.2 i hi
    have hpm : ∀ p ∈ ps, 0 ≤ p ∧ p.toNat < r.riders.length := fun p hp => aboard_mem (hps.mem_iff.mp hp)
    repeat walk_at "d"
    refine dx_for (di_rng1 ?_)
    repeat walk_at "d"
    rw [List.length_map]
    refine ⟨_, rfl, by omega, by omega, fun j d => ∃ (x y : Option Dt) (ow : Own) (fs : List Rat), d = ⟨[some (.tup [.tup (r.costs.map Dt.int), .tup (r.riders.map drider)]), some (.str o), some (.tup (t.map drow)), some (.ptr f), some (.int (i : Nat)), some (.lst (ps.map Dt.int)), x, y], ow⟩ ∧ ow f = some (.lst (fs.map dq)) ∧ fs.length = r.riders.length ∧ ∀ g ∈ fs, FrOk (4 * i + j) g, ?_, fun _ _ _ _ => trivial, ?_, ?_⟩
    · exact ⟨_, _, ow, fs, rfl, hf, hfl, hfs⟩
    · rintro j x d hx ⟨y1, y2, ow, fs, rfl, hf, hfl, hfs⟩
      obtain ⟨rfl, hj⟩ := rangeD_get hx
      rw [Int.zero_add]
      have hj : j < ps.length := by omega
      have hrow : ps.length - 1 < t.length := by rw [ht.1]; omega
      obtain ⟨hr2, hr3⟩ := ht.2 _ _ (getD_get (z := []) hrow)
      obtain ⟨s0, s1⟩ := hpm _ (getD_mem (z := 0) hj)
      have hsh := hr3 _ (getD_mem (z := 0) (show j < (t.getD (ps.length - 1) []).length by omega))
      have hc := hr1.cheap _ (getD_mem (z := 0) hi)
      have hk : ((ps.getD j 0).toNat : Int) = ps.getD j 0 := by omega
      have hfo := hfs _ (getD_mem (z := 0) (show (ps.getD j 0).toNat < fs.length by omega))
      repeat walk_at "d"
      rw [List.length_map]
      refine dr_xT (by rw [show ((ps.length : Nat) : Int) - 1 = ((ps.length - 1 : Nat) : Int) by omega]; exact row_atI hrow) ?_
      simp only [drow]
      repeat walk_at "d"
      refine dr_xT (dq_atI (by omega)) ?_
      repeat walk_at "d"
      refine dr_xL (int_atI hj) ?_
      repeat walk_at "d"
      refine dr_xO hf (by rw [← hk]; exact dq_atI (by omega)) ?_
      repeat walk_at "d"
      refine dr_xT (int_atI hi) ?_
      simp only [dq]
      repeat walk_at "d"
      have hn := hsh.2.2.1
      have hd := hsh.2.2.2
      have hdp := ((t.getD (ps.length - 1) []).getD j 0).den_pos
      refine dr_I (wmul (a := 20) (c := 20) (by omega) hn) ?_
      repeat walk_at "d"
      refine ⟨_, _, rfl, by omega, Nat.lt_of_lt_of_le (show (((((t.getD (ps.length - 1) []).getD j 0).den : Nat) : Int)).natAbs < 2 ^ 20 from hd) (Nat.pow_le_pow_right (by decide) (by decide)), ?_⟩
      repeat walk_at "d"
      have em : Rat.divInt (r.costs.getD i 0 * ((t.getD (ps.length - 1) []).getD j 0).num) ((t.getD (ps.length - 1) []).getD j 0).den = (r.costs.getD i 0 : Rat) * (t.getD (ps.length - 1) []).getD j 0 := by
        generalize (t.getD (ps.length - 1) []).getD j 0 = z
        rw [Rat.divInt_eq_div, Rat.intCast_mul]
        have h2 : z = (z.num : Rat) / ((z.den : Int) : Rat) := by
          rw [← Rat.divInt_eq_div]; exact (Rat.num_divInt_den z).symm
        conv => rhs; rw [h2]
        grind
      rw [em]
      have hnew := hfo.add hsh hc.1 hc.2
      refine ⟨_, _, rfl, hfo.2.2.sz (by omega), (SzR.mul (n := 6) (k := r.costs.getD i 0) (by omega) hsh.2.2).sz (by decide), ?_⟩
      refine dg_sub ?_
      repeat walk_at "d"
      refine dr_xL (int_atI hj) ?_
      refine ⟨f, _, _, (ps.getD j 0).toNat, rfl, hf, rfl, ?_, ?_⟩
      · unfold ixN; rw [List.length_map, if_pos (by omega), if_pos (by omega)]
      · refine ⟨_, _, _, fs.set (ps.getD j 0).toNat (fs.getD (ps.getD j 0).toNat 0 + (r.costs.getD i 0 : Rat) * (t.getD (ps.length - 1) []).getD j 0), rfl, ?_, by rw [List.length_set]; exact hfl, fun g hg => ?_⟩
        · rw [Own.put_same, List.map_set]
        · rcases List.mem_or_eq_of_mem_set hg with z | z
          · exact (hfs g z).up (by omega)
          · rw [z]; exact hnew
    · rintro d ⟨y1, y2, ow, fs, rfl, hf, hfl, hfs⟩
      rw [rangeD_len] at hfs
      exact ⟨_, _, _, _, ow, fs, rfl, hf, hfl, fun g hg => (hfs g hg).up (by omega)⟩
  · rintro d ⟨x1, x2, x3, x4, ow, fs, rfl, hf, hfl, hfs⟩
    rw [rangeD_len] at hfs
    repeat walk_at "d"
    refine dc_tupO hf ?_
    exact q fs hfl fun g hg => (hfs g hg).up (by omega)
end
end Cab
/-! W7e -/
set_option Elab.async false
set_option linter.all false
set_option maxRecDepth 100000
set_option maxHeartbeats 4000000
namespace Cab
open PySem PySem.Spec PyProof.Rows L2 DL
local macro_rules | `(tactic| walk_at "d") => `(tactic| first
  | with_reducible refine dx_seq ?_ | with_reducible refine dx_ret ?_ | with_reducible refine dx_asg ?_ | ((with_reducible refine dg_name ?_); dsimp only [List.set])
  | with_reducible refine de_op ?_ | ((with_reducible refine' de_var ?h1 ?_); (case h1 => exact rfl)) | with_reducible refine de_int ?_ | with_reducible refine da_cons ?_ | with_reducible refine da_nil ?_
  | ((with_reducible refine' dr_xT ?h1 ?_); (case h1 => exact rfl)) | ((with_reducible refine' dr_xL ?h1 ?_); (case h1 => exact rfl)) | with_reducible refine dr_I0 ?_ | with_reducible refine dr_I0b ?_ | with_reducible refine de_callP ?_ | with_reducible refine de_callA ?_
  | with_reducible refine de_cb ?_ | with_reducible refine de_un ?_ | with_reducible refine du_I ?_ | with_reducible refine de_bl ?_ | with_reducible refine de_non ?_ | with_reducible refine de_str ?_ | with_reducible refine de_ty ?_
  | with_reducible refine dr_eqI ?_ | with_reducible refine dr_neI ?_ | with_reducible refine dr_eqS ?_ | with_reducible refine dr_isN ?_ | with_reducible refine dr_notN ?_
  | with_reducible refine dt_and ?_ | with_reducible refine dt_or ?_ | with_reducible refine dt_not ?_ | with_reducible refine de_if ?_ | with_reducible refine de_andV ?_ | with_reducible refine de_orV ?_ | with_reducible refine de_notV ?_
  | ((with_reducible refine dt_test ?_)) | ((with_reducible refine dt_B ?_))
  | with_reducible refine dx_par' ?_ | with_reducible refine dx_par3' ?_ | with_reducible refine ex_bl ?_ | with_reducible refine ex_int ?_ | with_reducible refine isi_int ?_ | with_reducible refine isi_intB ?_ | with_reducible refine isi_tup ?_ | with_reducible refine isi_tupS ?_ | with_reducible refine isi_str ?_ | with_reducible refine de_chain ?_ | with_reducible refine dt_chain ?_ | with_reducible refine iteT ?_ | with_reducible refine iteF ?_ | with_reducible refine dx_if ?_ | with_reducible refine dx_drop ?_ | with_reducible refine dx_cont ?_ | with_reducible refine dx_next ?_
  | with_reducible refine dc_abs ?_ | with_reducible refine dc_lenT ?_ | with_reducible refine dc_lenL ?_ | with_reducible refine dc_int ?_ | with_reducible refine dc_max2 ?_ | with_reducible refine dc_min2 ?_ | with_reducible refine dc_tupL ?_
  | with_reducible refine de_fldF ?_ ?_ ?_ | with_reducible refine de_tup ?_ | ((with_reducible refine len_ok ?h1 ?_); (case h1 => exact rfl))
  | ((with_reducible refine iteT' ?h1 ?_); (case h1 => rfl)) | ((with_reducible refine iteF' ?h1 ?_); (case h1 => rfl))
  | with_reducible refine ex_int2 ?_ | ((with_reducible refine' dg_tup ?h1 ?_); (case h1 => rfl)) | with_reducible refine dgs_cons ?_ | with_reducible refine dgs_nil ?_ | with_reducible refine dc_lenX ?_ | with_reducible refine dr_inX ?_
  | dsimp only [List.set])
/-- a comprehension's targets -/
local macro_rules | `(tactic| walk_at "w") => `(tactic| repeat first
  | exact wp_name (by simp) | exact mo_name | exact wps_nil | exact mos_nil
  | refine wp_tup ?_ | refine wps_cons ?_ ?_ ?_ ?_ | refine mo_tup ?_ | refine mos_cons ?_ ?_)
/-- ends that are told by a value: a bool, a pair -/
local macro_rules | `(tactic| walk_at "e") => `(tactic| first
  | walk_at "d"
  | ((with_reducible refine Exists.intro _ (And.intro rfl ?_))))
section
variable {P : Program} {w : World} {K : PySem.W.Frag} {mg : Str → Option Value} {base : Heap}
/-! ### the law's customs and receipts -/
def pr_rules : Pr := fun ds ob QD => ∃ (a : Addr) (m : Nat), ds = [.ptr a] ∧ JAt ob a m ∧ m ≤ 800000 ∧ ∀ ob' c, JAt ob' a (m + 100) → Kp a ob ob' → CusOk c → QD (dcus c) ob'
theorem len__law_rules {ds ob Q} (p : pr_rules ds ob Q) : ds.length = 1 := by obtain ⟨_, _, rfl, _⟩ := p; rfl
theorem sc__law_rules : FnScope ["_law_jug_here", "_law_way", "_law_found", "_law_k", "_law_n", "_law_m", "_law_factor"] ["_law_jug_here"] (defScope (topS 108)) := ⟨rfl, rfl, rfl, by decide +kernel, rfl, by decide +kernel, by decide +kernel⟩
theorem ok__law_rules (T : Txt K mg base) : Cal P w K mg base 3 "_law_rules" ["_law_jug_here"] (spD K (pr_rules)) := by
  refine cal_mk (T.fn "_law_rules" 108 (by decide +kernel)) sc__law_rules (fun _ _ _ _ _ _ us hl => match us, hl with | [_], _ => rfl) (fun ds ob Q p => len__law_rules p) fun cdv A outer s H f E hr =>
    ⟨_, (pss_cons (ps_set (i := 1) sc__law_rules.nd rfl (.inl rfl) (pe_cal (ok__law_drop (K := K) T) (hr.mono (by decide)) (by rfl) (pa_cons (pv 0) (pa_cons pe_int pa_nil))))
      (pss_cons (ps_if (pt_cmpR op_lt (pv 1) pe_int (nomark _)) (pss_one (ps_ret (pe_ixK (K := K) rfl (pe_lst (pa_cons pe_str (pa_cons pe_str (pa_cons pe_str pa_nil)))) (pv 1)))) pss_nil)
      (pss_cons (ps_set (i := 2) sc__law_rules.nd rfl (.inl rfl) (pe_lst pa_nil))
      (pss_cons (ps_for PassesOwn.never rfl (pi_range1 (by rfl) (T.free "range" (by decide +kernel)) (pa_cons (pe_cal (ok__law_drop (K := K) T) (hr.mono (by decide)) (by rfl) (pa_cons (pv 0) (pa_cons pe_int pa_nil))) pa_nil)) (pg_name (i := 3) sc__law_rules.nd rfl (.inl rfl))
      (pss_cons (ps_par (i := 4) (j := 5) rfl sc__law_rules.nd rfl rfl (by decide) rfl rfl (pa_cons (pe_op op_add pe_int (pe_cal (ok__law_drop (K := K) T) (hr.mono (by decide)) (by rfl) (pa_cons (pv 0) (pa_cons pe_int pa_nil)))) (pa_cons (pe_op op_add pe_int (pe_cal (ok__law_drop (K := K) T) (hr.mono (by decide)) (by rfl) (pa_cons (pv 0) (pa_cons pe_int pa_nil)))) pa_nil)) (by rfl))
      (pss_cons (ps_set (i := 6) sc__law_rules.nd rfl (.inl rfl) (pe_cal (ok__law_one (K := K) T) (hr.mono (by decide)) (by rfl) (pa_cons (pv 0) (pa_cons (pe_lst (pa_cons pe_int (pa_cons pe_int (pa_cons pe_int (pa_cons pe_int (pa_cons pe_int (pa_cons pe_int pa_nil))))))) pa_nil))))
      (pss_one (ps_expr (pe_appK (K := K) rfl (pv 2) (pe_tup (pa_cons (pv 4) (pa_cons (pe_op op_add pe_int (pe_cal (ok__law_drop (K := K) T) (hr.mono (by decide)) (by rfl) (pa_cons (pv 0) (pa_cons (pv 4) pa_nil)))) (pa_cons (pv 5) (pa_cons (pe_op op_add pe_int (pe_cal (ok__law_drop (K := K) T) (hr.mono (by decide)) (by rfl) (pa_cons (pv 0) (pa_cons (pv 5) pa_nil)))) (pa_cons (pv 6) (pa_cons (pe_op op_add pe_int (pe_cal (ok__law_drop (K := K) T) (hr.mono (by decide)) (by rfl) (pa_cons (pv 0) (pa_cons pe_int pa_nil)))) pa_nil)))))))))))))
      (pss_one (ps_ret (pe_ctK (r := DL.rTupleOf K) call_tuple_of' (by decide +kernel) (T.free "tuple" (by decide +kernel)) (by rfl) (pa_cons (pv 2) pa_nil)))))))), fun b ds ob Q p => ?_⟩
  obtain ⟨a, m, rfl, hj, hm, q⟩ := p
  simp only [startD, List.map_nil]
  repeat walk_at "d"
  refine ⟨a, _, 5, rfl, hj, by omega, by decide, by decide, fun o1 v j1 k1 v0 v1 => ?_⟩
  repeat walk_at "d"
  by_cases h3 : v < 3
  · refine iteT' (decide_eq_true h3) ?_
    repeat walk_at "d"
    refine de_lstF ?_
    repeat walk_at "d"
    have hv : v = 0 ∨ v = 1 ∨ v = 2 := by omega
    rcases hv with e | e | e <;> subst e
    · refine dr_xL rfl ?_
      exact endD_all (q _ (.word "falling") (j1.mono (by omega)) k1 (.inl rfl))
    · refine dr_xL rfl ?_
      exact endD_all (q _ (.word "lasting") (j1.mono (by omega)) k1 (.inr (.inl rfl)))
    · refine dr_xL rfl ?_
      exact endD_all (q _ (.word "halved") (j1.mono (by omega)) k1 (.inr (.inr rfl)))
  · refine iteF' (decide_eq_false h3) ?_
    repeat walk_at "d"
    refine de_lstO ?_
    repeat walk_at "d"
    intro f hf
    have hfa := j1.ne hf
    have hf0 := k1.none hf hfa
    repeat walk_at "d"
    refine dx_for (di_rng1 ?_)
    repeat walk_at "d"
    refine ⟨a, _, 4, rfl, j1.put hfa, by omega, by decide, by decide, fun o2 w j2 k2 w0 w1 => ?_⟩
    have hf2 := k2 f _ hfa Own.put_same
    repeat walk_at "d"
    refine ⟨_, rfl, by omega, by omega, fun i d => ∃ (x y z u : Option Dt) (ow : Own) (l : List Cl), d = ⟨[some (.ptr a), some (.int v), some (.ptr f), x, y, z, u], ow⟩ ∧ ow f = some (.lst (l.map dcl)) ∧ l.length = i ∧ (∀ k ∈ l, ClOk k) ∧ JAt ow a (m + 4 + 12 * i) ∧ Kp a ob ow, ?_, fun _ _ _ _ => trivial, ?_, ?_⟩
    · exact ⟨_, _, _, _, o2, [], rfl, hf2, rfl, (fun k hk => by cases hk), j2.mono (by omega), (k1.put hf).trans k2⟩
    · rintro i x d hx ⟨x1, x2, x3, x4, ow, l, rfl, hfl, hll, hok, jo, ko⟩
      obtain ⟨rfl, hi⟩ := rangeD_get hx
      have hi : i < 3 := by omega
      repeat walk_at "d"
      refine ⟨a, _, 4, rfl, jo, by omega, by decide, by decide, fun o3 n j3 k3 n0 n1 => ?_⟩
      repeat walk_at "d"
      refine ⟨a, _, 4, rfl, j3, by omega, by decide, by decide, fun o4 n' j4 k4 n0' n1' => ?_⟩
      repeat walk_at "d"
      refine de_lstF ?_
      repeat walk_at "d"
      refine ⟨a, _, _, rfl, j4, by omega, by simp, by simp, fun o5 y j5 k5 hy => ?_⟩
      have hfac : ∃ g : Int, y = .int g ∧ 0 ≤ g ∧ g ≤ 4 := by
        simp only [List.mem_cons, List.not_mem_nil, or_false] at hy
        rcases hy with e | e | e | e | e | e <;> exact ⟨_, e, by decide, by decide⟩
      obtain ⟨g, rfl, g0, g1⟩ := hfac
      have hf5 := k5 f _ hfa (k4 f _ hfa (k3 f _ hfa hfl))
      repeat walk_at "d"
      refine de_append ?_
      repeat walk_at "d"
      refine ⟨f, _, rfl, hf5, ?_⟩
      repeat walk_at "d"
      refine ⟨a, _, 1 + n, rfl, j5, by omega, by omega, by omega, fun o6 r j6 k6 r0 r1 => ?_⟩
      repeat walk_at "d"
      refine ⟨a, _, 1 + n', rfl, j6, by omega, by omega, by omega, fun o7 r' j7 k7 r0' r1' => ?_⟩
      repeat walk_at "d"
      refine ⟨a, _, 2, rfl, j7, by omega, by decide, by decide, fun o8 h j8 k8 h0 h1 => ?_⟩
      have hf8 := k8 f _ hfa (k7 f _ hfa (k6 f _ hfa hf5))
      repeat walk_at "d"
      refine ⟨_, hf8, by rw [List.length_map]; omega, ?_⟩
      refine ⟨_, _, _, _, _, l ++ [⟨1 + n, 1 + r, 1 + n', 1 + r', g, 1 + h⟩], rfl, ?_, by rw [List.length_append, hll]; rfl, fun k hk => ?_, (j8.put hfa).mono (by omega), ((((((ko.trans k3).trans k4).trans k5).trans k6).trans k7).trans k8).putO hf0⟩
      · rw [Own.put_same, List.map_append]; rfl
      · rcases List.mem_append.mp hk with z | z
        · exact hok k z
        · rw [List.mem_singleton.mp z]
          show (1 ≤ 1 + n ∧ 1 + n ≤ 4) ∧ (1 ≤ 1 + r ∧ 1 + r ≤ 1 + n) ∧ (1 ≤ 1 + n' ∧ 1 + n' ≤ 4) ∧ (1 ≤ 1 + r' ∧ 1 + r' ≤ 1 + n') ∧ (0 ≤ g ∧ g ≤ 100) ∧ (1 ≤ 1 + h ∧ 1 + h ≤ 100)
          omega
    · rintro d ⟨x1, x2, x3, x4, ow, l, rfl, hfl, hll, hok, jo, ko⟩
      rw [rangeD_len] at hll jo
      repeat walk_at "d"
      refine dc_tupO hfl ?_
      exact endD_all (q _ (.cls l) (jo.mono (by omega)) ko ⟨by omega, hok⟩)
def dslip (r : Rcp) : Dt := .tup [dtrip r.ride, .tup (r.am.map damt), .int r.play]
def pr_slips : Pr := fun ds ob QD => ∃ (a : Addr) (m : Nat) (o : Str) (t : List (List Rat)), ds = [.ptr a, .str o, .tup (t.map drow), .int 3] ∧ JAt ob a m ∧ m ≤ 800000 ∧ ShT t ∧ ∀ ob' (rs : List Rcp), JAt ob' a (m + 500) → Kp a ob ob' → rs.length ≤ 3 → (∀ r ∈ rs, RcpOk r) → QD (.tup (rs.map dslip)) ob'
theorem len__law_slips {ds ob Q} (p : pr_slips ds ob Q) : ds.length = 4 := by obtain ⟨_, _, _, _, rfl, _⟩ := p; rfl
theorem floor_bd {f : Rat} (h0 : 0 ≤ f) (h1 : f ≤ ((480 : Nat) : Rat)) : 0 ≤ f.num / (f.den : Int) ∧ f.num / (f.den : Int) ≤ 100000000 := by
  have pd := f.den_pos
  have n0 := Rat.num_nonneg.mpr h0
  refine ⟨Int.ediv_nonneg n0 (by omega), ?_⟩
  have h2 : f.num ≤ 480 * (f.den : Int) := by
    have h3 := (Rat.le_iff f (480 : Rat)).mp (by exact_mod_cast h1)
    have e1 : (480 : Rat).num = 480 := by decide
    have e2 : (480 : Rat).den = 1 := by decide
    rw [e1, e2] at h3
    omega
  have h4 : f.num / (f.den : Int) ≤ 480 := Int.ediv_le_of_le_mul (by omega) h2
  omega
theorem sc__law_slips : FnScope ["_law_jug_here", "_law_word", "_law_rows", "_law_many", "_law_found", "_law_k", "_law_trip_here", "_law_paid", "_law_slack", "_law_fare"] ["_law_jug_here", "_law_word", "_law_rows", "_law_many"] (defScope (topS 109)) := ⟨rfl, rfl, rfl, by decide +kernel, rfl, by decide +kernel, by decide +kernel⟩
theorem ok__law_slips (T : Txt K mg base) : Cal P w K mg base 5 "_law_slips" ["_law_jug_here", "_law_word", "_law_rows", "_law_many"] (spD K (pr_slips)) := by
  refine cal_mk (T.fn "_law_slips" 109 (by decide +kernel)) sc__law_slips (fun _ _ _ _ _ _ us hl => match us, hl with | [_, _, _, _], _ => rfl) (fun ds ob Q p => len__law_slips p) fun cdv A outer s H f E hr =>
    ⟨_, (pss_cons (ps_set (i := 4) sc__law_slips.nd rfl (.inl rfl) (pe_lst pa_nil))
      (pss_cons (ps_for PassesOwn.never rfl (pi_range1 (by rfl) (T.free "range" (by decide +kernel)) (pa_cons (pe_cal (ok__law_drop (K := K) T) (hr.mono (by decide)) (by rfl) (pa_cons (pv 0) (pa_cons (pe_op op_add (pv 3) pe_int) pa_nil))) pa_nil)) (pg_name (i := 5) sc__law_slips.nd rfl (.inl rfl))
      (pss_cons (ps_par3 (i := 6) (j := 7) (l := 8) rfl sc__law_slips.nd rfl rfl rfl (by decide) (by decide) (by decide) rfl rfl rfl (pa_cons (pe_cal (ok__law_trip (K := K) T) (hr.mono (by decide)) (by rfl) (pa_cons (pv 0) (pa_cons pe_int pa_nil))) (pa_cons (pe_lst pa_nil) (pa_cons (pe_cal (ok__law_one (K := K) T) (hr.mono (by decide)) (by rfl) (pa_cons (pv 0) (pa_cons (pe_lst (pa_cons pe_int (pa_cons pe_int (pa_cons pe_int (pa_cons pe_int pa_nil))))) pa_nil))) pa_nil))) (by rfl))
      (pss_cons (ps_for PassesOwn.never rfl (pi_tupK (K := K) rfl (pe_cal (ok__law_fares (K := K) T) (hr.mono (by decide)) (by rfl) (pa_cons (pv 6) (pa_cons (pv 1) (pa_cons (pv 2) pa_nil))))) (pg_name (i := 9) sc__law_slips.nd rfl (.inl rfl))
      (pss_one (ps_expr (pe_appK (K := K) rfl (pv 7) (pe_ifExp (pt_cmpR op_eq (pe_cal (ok__law_drop (K := K) T) (hr.mono (by decide)) (by rfl) (pa_cons (pv 0) (pa_cons pe_int pa_nil))) pe_int (nomark _)) pe_non (pe_op op_fdivW (pe_ixK (K := K) rfl (pv 9) pe_int) (pe_ixK (K := K) rfl (pv 9) pe_int)))))))
      (pss_one (ps_expr (pe_appK (K := K) rfl (pv 4) (pe_tup (pa_cons (pv 6) (pa_cons (pe_ctK (r := DL.rTupleOf K) call_tuple_of' (by decide +kernel) (T.free "tuple" (by decide +kernel)) (by rfl) (pa_cons (pv 7) pa_nil)) (pa_cons (pv 8) pa_nil))))))))))
      (pss_one (ps_ret (pe_ctK (r := DL.rTupleOf K) call_tuple_of' (by decide +kernel) (T.free "tuple" (by decide +kernel)) (by rfl) (pa_cons (pv 4) pa_nil)))))), fun b ds ob Q p => ?_⟩
  obtain ⟨a, m, o, t, rfl, hj, hm, ht, q⟩ := p
  simp only [startD, List.map_nil]
  repeat walk_at "d"
  refine de_lstO ?_
  repeat walk_at "d"
  intro f hf
  have hfa := hj.ne hf
  have hf0 : ob f = none := hf
  repeat walk_at "d"
  refine dx_for (di_rng1 ?_)
  repeat walk_at "d"
  refine ⟨a, _, _, rfl, hj.put hfa, by omega, by decide, by decide, fun o2 w j2 k2 w0 w1 => ?_⟩
  have hf2 := k2 f _ hfa Own.put_same
  repeat walk_at "d"
  refine ⟨_, rfl, by omega, by omega, fun i d => ∃ (x y z u v : Option Dt) (ow : Own) (l : List Rcp), d = ⟨[some (.ptr a), some (.str o), some (.tup (t.map drow)), some (.int 3), some (.ptr f), x, y, z, u, v], ow⟩ ∧ ow f = some (.lst (l.map dslip)) ∧ l.length = i ∧ (∀ k ∈ l, RcpOk k) ∧ JAt ow a (m + 4 + 150 * i) ∧ Kp a ob ow, ?_, fun _ _ _ _ => trivial, ?_, ?_⟩
  · exact ⟨_, _, _, _, _, o2, [], rfl, hf2, rfl, (fun k hk => by cases hk), j2.mono (by omega), (Kp.refl.put hf).trans k2⟩
  · rintro i x d hx ⟨x1, x2, x3, x4, x5, ow, l, rfl, hfl, hll, hok, jo, ko⟩
    obtain ⟨rfl, hi⟩ := rangeD_get hx
    have hi : i < 3 := by omega
    repeat walk_at "d"
    refine ⟨a, _, 3, rfl, jo, by omega, by decide, by decide, fun o3 r j3 k3 hr1 => ?_⟩
    repeat walk_at "d"
    refine de_lstO ?_
    repeat walk_at "d"
    intro p hp
    have hpa := j3.ne hp
    have hf3 := k3 f _ hfa hfl
    have hpf : p ≠ f := fun z => by rw [z] at hp; rw [show o3 f = none from hp] at hf3; cases hf3
    have hp0 := (ko.trans k3).none hp hpa
    repeat walk_at "d"
    refine de_lstF ?_
    repeat walk_at "d"
    refine ⟨a, _, _, rfl, j3.put hpa, by omega, by simp, by simp, fun o5 y j5 k5 hy => ?_⟩
    have hfac : ∃ g : Int, y = .int g ∧ 0 ≤ g ∧ g ≤ 1000 := by
      simp only [List.mem_cons, List.not_mem_nil, or_false] at hy
      rcases hy with e | e | e | e <;> exact ⟨_, e, by decide, by decide⟩
    obtain ⟨g, rfl, g0, g1⟩ := hfac
    have hf5 := k5 f _ hfa ((Own.put_ne hpf.symm).trans hf3)
    have hp5 := k5 p _ hpa Own.put_same
    have ko5 := ((ko.trans k3).put hp).trans k5
    repeat walk_at "d"
    refine dx_for (di_tup ?_)
    repeat walk_at "d"
    refine ⟨r, o, t, rfl, hr1, ht, fun fs hl hfs => ?_⟩
    have hl6 : fs.length ≤ 6 := by rw [hl]; exact hr1.ok.2.1.2.1
    refine ⟨_, rfl, fun j d => ∃ (y : Option Dt) (ow : Own) (am : List (Option Int)), d = ⟨[some (.ptr a), some (.str o), some (.tup (t.map drow)), some (.int 3), some (.ptr f), some (.int (0 + (i : Int))), some (dtrip r), some (.ptr p), some (.int g), y], ow⟩ ∧ ow p = some (.lst (am.map damt)) ∧ ow f = some (.lst (l.map dslip)) ∧ am.length = j ∧ (∀ k ∈ am, AmOk k) ∧ JAt ow a (m + 4 + 150 * i + 102 + 2 * j) ∧ Kp a ob ow, ?_, fun _ _ _ _ => trivial, ?_, ?_⟩
    · exact ⟨_, o5, [], rfl, hp5, hf5, rfl, (fun k hk => by cases hk), j5.mono (by omega), ko5⟩
    · rintro j x d hx ⟨y1, ow, am, rfl, hpo, hfo, hal, ham, jo, ko⟩
      obtain ⟨fr, hfr, rfl⟩ := map_get hx
      have hj6 : j < fs.length := (List.getElem?_eq_some_iff.mp hfr).1
      obtain ⟨q0, q1, q2⟩ := hfs fr (List.mem_of_getElem? hfr)
      obtain ⟨b0, b1⟩ := floor_bd q0 q1
      repeat walk_at "d"
      refine de_append ?_
      repeat walk_at "d"
      refine ⟨p, _, rfl, hpo, ?_⟩
      repeat walk_at "d"
      refine ⟨a, _, 4, rfl, jo, by omega, by decide, by decide, fun o6 w j6 k6 w0 w1 => ?_⟩
      have hp6 := k6 p _ hpa hpo
      have hf6 := k6 f _ hfa hfo
      have fin : ∀ am1 : Option Int, AmOk am1 → ∃ (y : Option Dt) (ow' : Own) (am' : List (Option Int)), (⟨[some (.ptr a), some (.str o), some (.tup (t.map drow)), some (.int 3), some (.ptr f), some (.int (0 + (i : Int))), some (dtrip r), some (.ptr p), some (.int g), some (dq fr)], o6.put p (.lst (am.map damt ++ [damt am1]))⟩ : DL.St) = ⟨[some (.ptr a), some (.str o), some (.tup (t.map drow)), some (.int 3), some (.ptr f), some (.int (0 + (i : Int))), some (dtrip r), some (.ptr p), some (.int g), y], ow'⟩ ∧ ow' p = some (.lst (am'.map damt)) ∧ ow' f = some (.lst (l.map dslip)) ∧ am'.length = j + 1 ∧ (∀ k ∈ am', AmOk k) ∧ JAt ow' a (m + 4 + 150 * i + 102 + 2 * (j + 1)) ∧ Kp a ob ow' := fun am1 h1 => by
        refine ⟨_, _, am ++ [am1], rfl, ?_, (Own.put_ne hpf.symm).trans hf6, by rw [List.length_append, hal]; rfl, fun k hk => ?_, (j6.put hpa).mono (by omega), (ko.trans k6).putO hp0⟩
        · rw [Own.put_same, List.map_append]; rfl
        · rcases List.mem_append.mp hk with z | z
          · exact ham k z
          · rw [List.mem_singleton.mp z]; exact h1
      repeat walk_at "d"
      by_cases hw : w = 0
      · refine iteT' (decide_eq_true hw) ?_
        repeat walk_at "d"
        refine ⟨_, hp6, by rw [List.length_map]; omega, ?_⟩
        exact fin none fun v h => by cases h
      · refine iteF' (decide_eq_false hw) ?_
        simp only [dq] at fin ⊢
        repeat walk_at "d"
        have pd := fr.den_pos
        refine dr_I (wide_div (by omega) (b := 400) (Nat.lt_of_lt_of_le (show ((fr.den : Int)).natAbs < _ from q2.2) (Nat.pow_le_pow_right (by decide) (by decide))) (by decide) (by decide)) ?_
        refine ⟨_, hp6, by rw [List.length_map]; omega, ?_⟩
        exact fin (some _) fun v h => by cases h; exact ⟨b0, b1⟩
    · rintro d ⟨y1, ow, am, rfl, hpo, hfo, hal, ham, jo, ko⟩
      rw [List.length_map] at hal jo
      repeat walk_at "d"
      refine de_append ?_
      repeat walk_at "d"
      refine ⟨f, _, rfl, hfo, ?_⟩
      repeat walk_at "d"
      refine dc_tupO hpo ?_
      repeat walk_at "d"
      refine ⟨_, hfo, by rw [List.length_map]; omega, ?_⟩
      refine ⟨_, _, _, _, _, _, l ++ [⟨r, am, g⟩], rfl, ?_, by rw [List.length_append, hll]; rfl, fun k hk => ?_, (jo.put hfa).mono (by omega), ko.putO hf0⟩
      · rw [Own.put_same, List.map_append]; rfl
      · rcases List.mem_append.mp hk with z | z
        · exact hok k z
        · rw [List.mem_singleton.mp z]
          exact ⟨hr1.ok, by show am.length = r.riders.length; omega, ham, g0, g1⟩
  · rintro d ⟨x1, x2, x3, x4, x5, ow, l, rfl, hfl, hll, hok, jo, ko⟩
    rw [rangeD_len] at hll jo
    repeat walk_at "d"
    refine dc_tupO hfl ?_
    exact endD_all (q _ l (jo.mono (by omega)) ko (by omega) hok)
def pr_receipts (K : PySem.W.Frag) : PrP := fun ds Q => ∃ rs : List Rcp, ds = [.tup (rs.map dslip)] ∧ rs.length ≤ 3 ∧ (∀ r ∈ rs, RcpOk r) ∧ Q (.tup (rs.map (drcp K)))
theorem len__law_receipts {ds Q} (p : pr_receipts K ds Q) : ds.length = 1 := by obtain ⟨_, rfl, _⟩ := p; rfl
theorem sc__law_receipts : FnScope ["_law_slips_here", "_law_trip_here", "_law_paid", "_law_slack"] ["_law_slips_here"] (defScope (topS 110)) := ⟨rfl, rfl, rfl, by decide +kernel, rfl, by decide +kernel, by decide +kernel⟩
theorem ok__law_receipts (T : Txt K mg base) : Cal P w K mg base 8 "_law_receipts" ["_law_slips_here"] (spP K (pr_receipts K)) := by
  refine cal_pure (T.fn "_law_receipts" 110 (by decide +kernel)) sc__law_receipts (fun _ _ _ _ _ _ us hl => match us, hl with | [_], _ => rfl) (fun ds Q p => len__law_receipts p) fun cdv A outer s H f E hr =>
    ⟨_, (pss_one (ps_ret (pe_ctK (r := DL.rTupleOf K) call_tuple_of' (by decide +kernel) (T.free "tuple" (by decide +kernel)) (by rfl) (pa_cons (pe_lc (own := [("_law_trip_here", 1), ("_law_paid", 2), ("_law_slack", 3)]) (g := (gTup K 3 (gCons (gName 1) (gCons (gName 2) (gCons (gName 3) gNil))))) (tt := tYes) rfl sc__law_receipts.nd (pi_tupK (K := K) rfl (pv 0)) (blkOk_by (own := [("_law_trip_here", 1), ("_law_paid", 2), ("_law_slack", 3)]) (N := ["_law_slips_here", "_law_trip_here", "_law_paid", "_law_slack"]) (sc := (defScope (topS 110))) (by decide +kernel)) (fun _ _ _ _ _ => (pg_tupK (K := K) (n := 3) rfl rfl (pgs_cons (pg_name (i := 1) sc__law_receipts.nd rfl (Or.inl rfl)) (pgs_cons (pg_name (i := 2) sc__law_receipts.nd rfl (Or.inl rfl)) (pgs_cons (pg_name (i := 3) sc__law_receipts.nd rfl (Or.inl rfl)) pgs_nil))))) (fun _ _ _ _ _ => pts_nil) (fun _ _ _ _ _ => (pe_tup (pa_cons (pe_cal (ok__law_cab_trip (K := K) T) (hr.mono (by decide)) (by rfl) (pa_cons (pv 1) pa_nil)) (pa_cons (pv 2) (pa_cons (pv 3) pa_nil)))))) pa_nil)))), fun b ds Q p => ?_⟩
  obtain ⟨rs, rfl, hl, hok, q⟩ := p
  simp only [startD, List.map_nil]
  repeat walk_at "d"
  refine de_lcM (by walk_at "w") (by walk_at "w") ?_
  refine di_tup ?_
  repeat walk_at "d"
  refine ⟨_, rfl, by rw [List.length_map]; omega, fun _ _ => trivial, fun i => drcp K (rs.getD i ⟨⟨[], []⟩, [], 0⟩), ?_, ?_⟩
  · intro b i x hx
    obtain ⟨r, hr', rfl⟩ := map_get hx
    dsimp only [wipeD, List.map, List.set]
    rw [show rs.getD i ⟨⟨[], []⟩, [], 0⟩ = r by rw [List.getD_eq_getElem?_getD, hr']; rfl]
    simp only [dslip]
    repeat walk_at "d"
    refine ⟨r.ride, rfl, (hok r (List.mem_of_getElem? hr')).1, ?_⟩
    repeat walk_at "d"
    exact ⟨rfl, rfl⟩
  · rw [List.length_map, lcM_map (g := drcp K) rs _]
    repeat walk_at "d"
    exact q
end
end Cab
/-! W7f -/
set_option Elab.async false
set_option linter.all false
set_option maxRecDepth 100000
set_option maxHeartbeats 4000000
namespace Cab
open PySem PySem.Spec PyProof.Rows L2 DL
local macro_rules | `(tactic| walk_at "d") => `(tactic| first
  | with_reducible refine dx_seq ?_ | with_reducible refine dx_ret ?_ | with_reducible refine dx_asg ?_ | ((with_reducible refine dg_name ?_); dsimp only [List.set])
  | with_reducible refine de_op ?_ | ((with_reducible refine' de_var ?h1 ?_); (case h1 => exact rfl)) | with_reducible refine de_int ?_ | with_reducible refine da_cons ?_ | with_reducible refine da_nil ?_
  | ((with_reducible refine' dr_xT ?h1 ?_); (case h1 => exact rfl)) | ((with_reducible refine' dr_xL ?h1 ?_); (case h1 => exact rfl)) | with_reducible refine dr_I0 ?_ | with_reducible refine dr_I0b ?_ | with_reducible refine de_callP ?_ | with_reducible refine de_callA ?_
  | with_reducible refine de_cb ?_ | with_reducible refine de_un ?_ | with_reducible refine du_I ?_ | with_reducible refine de_bl ?_ | with_reducible refine de_non ?_ | with_reducible refine de_str ?_ | with_reducible refine de_ty ?_
  | with_reducible refine dr_eqI ?_ | with_reducible refine dr_neI ?_ | with_reducible refine dr_eqS ?_ | with_reducible refine dr_isN ?_ | with_reducible refine dr_notN ?_
  | with_reducible refine dt_and ?_ | with_reducible refine dt_or ?_ | with_reducible refine dt_not ?_ | with_reducible refine de_if ?_ | with_reducible refine de_andV ?_ | with_reducible refine de_orV ?_ | with_reducible refine de_notV ?_
  | ((with_reducible refine dt_test ?_)) | ((with_reducible refine dt_B ?_))
  | with_reducible refine dx_par' ?_ | with_reducible refine dx_par3' ?_ | with_reducible refine ex_bl ?_ | with_reducible refine ex_int ?_ | with_reducible refine isi_int ?_ | with_reducible refine isi_intB ?_ | with_reducible refine isi_tup ?_ | with_reducible refine isi_tupS ?_ | with_reducible refine isi_str ?_ | with_reducible refine de_chain ?_ | with_reducible refine dt_chain ?_ | with_reducible refine iteT ?_ | with_reducible refine iteF ?_ | with_reducible refine dx_if ?_ | with_reducible refine dx_drop ?_ | with_reducible refine dx_cont ?_ | with_reducible refine dx_next ?_
  | with_reducible refine dc_abs ?_ | with_reducible refine dc_lenT ?_ | with_reducible refine dc_lenL ?_ | with_reducible refine dc_int ?_ | with_reducible refine dc_max2 ?_ | with_reducible refine dc_min2 ?_ | with_reducible refine dc_tupL ?_
  | with_reducible refine de_fldF ?_ ?_ ?_ | with_reducible refine de_tup ?_ | ((with_reducible refine len_ok ?h1 ?_); (case h1 => exact rfl))
  | ((with_reducible refine iteT' ?h1 ?_); (case h1 => rfl)) | ((with_reducible refine iteF' ?h1 ?_); (case h1 => rfl))
  | with_reducible refine ex_int2 ?_ | ((with_reducible refine' dg_tup ?h1 ?_); (case h1 => rfl)) | with_reducible refine dgs_cons ?_ | with_reducible refine dgs_nil ?_ | with_reducible refine dc_lenX ?_ | with_reducible refine dr_inX ?_
  | dsimp only [List.set])
/-- a comprehension's targets -/
local macro_rules | `(tactic| walk_at "w") => `(tactic| repeat first
  | exact wp_name (by simp) | exact mo_name | exact wps_nil | exact mos_nil
  | refine wp_tup ?_ | refine wps_cons ?_ ?_ ?_ ?_ | refine mo_tup ?_ | refine mos_cons ?_ ?_)
/-- ends that are told by a value: a bool, a pair -/
local macro_rules | `(tactic| walk_at "e") => `(tactic| first
  | walk_at "d"
  | ((with_reducible refine Exists.intro _ (And.intro rfl ?_))))
section
variable {P : Program} {w : World} {K : PySem.W.Frag} {mg : Str → Option Value} {base : Heap}
/-! ### mixtures -/
def mixR (c d r s : Rat) : Rat := c * r + d * s
/-- weights that sum to one -/
structure Wt (c d : Rat) : Prop where
  c0 : 0 ≤ c
  d0 : 0 ≤ d
  one : c + d = 1
def wc (u v : Int) : Rat := (u : Rat) / ((u : Rat) + (v : Rat))
def wd (u v : Int) : Rat := (v : Rat) / ((u : Rat) + (v : Rat))
theorem wt_ok {u v : Int} (hu : 1 ≤ u) (hv : 0 ≤ v) : Wt (wc u v) (wd u v) := by
  have h1 : (1 : Rat) ≤ (u : Rat) := by exact_mod_cast hu
  have h2 : (0 : Rat) ≤ (v : Rat) := by exact_mod_cast hv
  have hp : (0 : Rat) < (u : Rat) + (v : Rat) := by grind
  have hi : (0 : Rat) ≤ ((u : Rat) + (v : Rat))⁻¹ := Rat.le_of_lt (Rat.inv_pos.mpr hp)
  refine ⟨?_, ?_, ?_⟩
  · unfold wc; rw [Rat.div_def]; exact Rat.mul_nonneg (by grind) hi
  · unfold wd; rw [Rat.div_def]; exact Rat.mul_nonneg h2 hi
  · unfold wc wd
    rw [Rat.div_def, Rat.div_def, ← Rat.add_mul]
    exact Rat.mul_inv_cancel _ (fun z => by rw [z] at hp; exact absurd hp (by decide))
theorem mix_eq {u v : Int} (hu : 1 ≤ u) (hv : 0 ≤ v) (r s : Rat) : Rat.divInt (u * r.num * s.den + v * s.num * r.den) ((u + (v + 0)) * (r.den : Int) * (s.den : Int)) = mixR (wc u v) (wd u v) r s := by
  have h1 : (1 : Rat) ≤ (u : Rat) := by exact_mod_cast hu
  have h2 : (0 : Rat) ≤ (v : Rat) := by exact_mod_cast hv
  have hp : (u : Rat) + (v : Rat) ≠ 0 := fun z => by grind
  have er : r = (r.num : Rat) / ((r.den : Int) : Rat) := by rw [← Rat.divInt_eq_div]; exact (Rat.num_divInt_den r).symm
  have es : s = (s.num : Rat) / ((s.den : Int) : Rat) := by rw [← Rat.divInt_eq_div]; exact (Rat.num_divInt_den s).symm
  have rd : ((r.den : Int) : Rat) ≠ 0 := by
    have := r.den_pos
    exact_mod_cast (show (r.den : Int) ≠ 0 by omega)
  have sd : ((s.den : Int) : Rat) ≠ 0 := by
    have := s.den_pos
    exact_mod_cast (show (s.den : Int) ≠ 0 by omega)
  unfold mixR wc wd
  rw [Rat.divInt_eq_div]
  conv => rhs; rw [er, es]
  simp only [Rat.intCast_mul, Rat.intCast_add, Rat.intCast_zero, Rat.add_zero]
  generalize ((r.den : Int) : Rat) = a at *
  generalize ((s.den : Int) : Rat) = e at *
  generalize (r.num : Rat) = x at *
  generalize (s.num : Rat) = y at *
  generalize (u : Rat) = p at *
  generalize (v : Rat) = q at *
  clear er es
  grind
def pr_between : PrP := fun ds Q => ∃ (r s : Rat) (u v : Int), ds = [dq r, dq s, .tup [.int u, .int v]] ∧ Sz r ∧ Sz s ∧ 1 ≤ u ∧ u ≤ 20 ∧ 0 ≤ v ∧ v ≤ 20 ∧ Q (dq (mixR (wc u v) (wd u v) r s))
theorem len__law_between {ds Q} (p : pr_between ds Q) : ds.length = 3 := by obtain ⟨_, _, _, _, rfl, _⟩ := p; rfl
theorem sc__law_between : FnScope ["_law_one_share", "_law_two_share", "_law_weights", "_law_up"] ["_law_one_share", "_law_two_share", "_law_weights"] (defScope (topS 111)) := ⟨rfl, rfl, rfl, by decide +kernel, rfl, by decide +kernel, by decide +kernel⟩
theorem ok__law_between (T : Txt K mg base) : Cal P w K mg base 3 "_law_between" ["_law_one_share", "_law_two_share", "_law_weights"] (spP K (pr_between)) := by
  refine cal_pure (T.fn "_law_between" 111 (by decide +kernel)) sc__law_between (fun _ _ _ _ _ _ us hl => match us, hl with | [_, _, _], _ => rfl) (fun ds Q p => len__law_between p) fun cdv A outer s H f E hr =>
    ⟨_, (pss_cons (ps_set (i := 3) sc__law_between.nd rfl (.inl rfl) (pe_op op_mulW (pe_op op_mulW (pe_ixK (K := K) rfl (pv 2) pe_int) (pe_ixK (K := K) rfl (pv 0) pe_int)) (pe_ixK (K := K) rfl (pv 1) pe_int)))
      (pss_cons (ps_set (i := 3) sc__law_between.nd rfl (.inl rfl) (pe_op op_add (pv 3) (pe_op op_mulW (pe_op op_mulW (pe_ixK (K := K) rfl (pv 2) pe_int) (pe_ixK (K := K) rfl (pv 1) pe_int)) (pe_ixK (K := K) rfl (pv 0) pe_int))))
      (pss_one (ps_ret (pe_cal (ok__law_low (K := K) T) (hr.mono (by decide)) (by rfl) (pa_cons (pv 3) (pa_cons (pe_op op_mulW (pe_op op_mulW (pe_cbK (r := rSumT K) (cr_sumTK (K := K) rfl rfl) (by decide +kernel) (T.free "sum" (by decide +kernel)) (by rfl) (pa_cons (pv 2) pa_nil)) (pe_ixK (K := K) rfl (pv 0) pe_int)) (pe_ixK (K := K) rfl (pv 1) pe_int)) pa_nil))))))), fun b ds Q p => ?_⟩
  obtain ⟨r, s, u, v, rfl, hr1, hs1, u0, u1, v0, v1, q⟩ := p
  simp only [startD, List.map_nil, dq]
  have hu : u.natAbs < 2 ^ 5 := by omega
  have hv : v.natAbs < 2 ^ 5 := by omega
  have rd : ((r.den : Int)).natAbs < 2 ^ 4000 := hr1.2
  have sd : ((s.den : Int)).natAbs < 2 ^ 4000 := hs1.2
  have pr := r.den_pos
  have ps := s.den_pos
  have a1 := wide_lt (i := u) (j := r.num) hu hr1.1
  have a2 := wide_lt (i := v) (j := s.num) hv hs1.1
  have hw : (u + (v + 0)).natAbs < 2 ^ 6 := by omega
  have a3 := wide_lt (i := u + (v + 0)) (j := (r.den : Int)) hw rd
  repeat walk_at "d"
  refine dr_I (wmul hu hr1.1) ?_
  repeat walk_at "d"
  refine dr_I (wmul a1 sd) ?_
  repeat walk_at "d"
  refine dr_I (wmul hv hs1.1) ?_
  repeat walk_at "d"
  refine dr_I (wmul a2 rd) ?_
  repeat walk_at "d"
  refine dc_sumT (ns := [u, v]) ?_
  repeat walk_at "d"
  refine dr_I (show CMulW (u + (v + 0)) (r.den : Int) from wmul hw rd) ?_
  repeat walk_at "d"
  refine dr_I (show CMulW ((u + (v + 0)) * (r.den : Int)) (s.den : Int) from wmul a3 sd) ?_
  repeat walk_at "d"
  refine ⟨u * r.num * s.den + v * s.num * r.den, (u + (v + 0)) * (r.den : Int) * (s.den : Int), rfl, ?_, ?_, ?_⟩
  · exact Int.mul_pos (Int.mul_pos (by omega) (by omega)) (by omega)
  · have := wide_lt (i := (u + (v + 0)) * (r.den : Int)) (j := (s.den : Int)) a3 sd
    exact Nat.lt_of_lt_of_le this (Nat.pow_le_pow_right (by decide) (by decide))
  · rw [mix_eq u0 v0]; exact q
/-- a mixture of tables -/
def bld (c d : Rat) (t1 t2 : List (List Rat)) : List (List Rat) := List.zipWith (List.zipWith (mixR c d)) t1 t2
def pr_blend : PrP := fun ds Q => ∃ (t1 t2 : List (List Rat)) (u v : Int), ds = [dtab t1, dtab t2, .tup [.int u, .int v]] ∧ TblOk t1 ∧ TblOk t2 ∧ SzT 310 t1 ∧ SzT 310 t2 ∧ 1 ≤ u ∧ u ≤ 20 ∧ 0 ≤ v ∧ v ≤ 20 ∧ Q (dtab (bld (wc u v) (wd u v) t1 t2))
theorem len__law_blend {ds Q} (p : pr_blend ds Q) : ds.length = 3 := by obtain ⟨_, _, _, _, rfl, _⟩ := p; rfl
theorem zipWith_getD {α β γ : Type} {f : α → β → γ} {l : List α} {m : List β} (za : α) (zb : β) (h : l.length = m.length) : (List.range l.length).map (fun i => f (l.getD i za) (m.getD i zb)) = List.zipWith f l m := by
  apply List.ext_getElem (by simp [h])
  intro i h1 h2
  simp only [List.length_map, List.length_range] at h1
  simp [List.getD_eq_getElem?_getD, List.getElem?_eq_getElem h1, List.getElem?_eq_getElem (show i < m.length by omega)]
theorem zipWith_take {α β γ : Type} {f : α → β → γ} {l : List α} {m : List β} {i : Nat} {a : α} {e : β} (h1 : l[i]? = some a) (h2 : m[i]? = some e) : (List.zipWith f l m).take (i + 1) = (List.zipWith f l m).take i ++ [f a e] := by
  rw [List.take_add_one]
  congr 1
  rw [List.getElem?_zipWith, h1, h2]; rfl
theorem sc__law_blend : FnScope ["_law_one_table", "_law_two_table", "_law_weights", "_law_found", "_law_first", "_law_last", "_law_a", "_law_b"] ["_law_one_table", "_law_two_table", "_law_weights"] (defScope (topS 112)) := ⟨rfl, rfl, rfl, by decide +kernel, rfl, by decide +kernel, by decide +kernel⟩
theorem ok__law_blend (T : Txt K mg base) : Cal P w K mg base 4 "_law_blend" ["_law_one_table", "_law_two_table", "_law_weights"] (spP K (pr_blend)) := by
  refine cal_pure (T.fn "_law_blend" 112 (by decide +kernel)) sc__law_blend (fun _ _ _ _ _ _ us hl => match us, hl with | [_, _, _], _ => rfl) (fun ds Q p => len__law_blend p) fun cdv A outer s H f E hr =>
    ⟨_, (pss_cons (ps_set (i := 3) sc__law_blend.nd rfl (.inl rfl) (pe_lst pa_nil))
      (pss_cons (ps_for PassesOwn.never rfl (pi_zipK (K := K) rfl (by rfl) (T.free "zip" (by decide +kernel)) (pa_cons (pv 0) (pa_cons (pv 1) pa_nil))) (pg_tupK (K := K) (n := 2) rfl rfl (pgs_cons (pg_name (i := 4) sc__law_blend.nd rfl (.inl rfl)) (pgs_cons (pg_name (i := 5) sc__law_blend.nd rfl (.inl rfl)) pgs_nil)))
      (pss_one (ps_expr (pe_appK (K := K) rfl (pv 3) (pe_ctK (r := DL.rTupleOf K) call_tuple_of' (by decide +kernel) (T.free "tuple" (by decide +kernel)) (by rfl) (pa_cons (pe_lc (own := [("_law_a", 6), ("_law_b", 7)]) (g := (gTup K 2 (gCons (gName 6) (gCons (gName 7) gNil)))) (tt := tYes) rfl sc__law_blend.nd (pi_zipK (K := K) rfl (by rfl) (T.free "zip" (by decide +kernel)) (pa_cons (pv 4) (pa_cons (pv 5) pa_nil))) (blkOk_by (own := [("_law_a", 6), ("_law_b", 7)]) (N := ["_law_one_table", "_law_two_table", "_law_weights", "_law_found", "_law_first", "_law_last", "_law_a", "_law_b"]) (sc := (defScope (topS 112))) (by decide +kernel)) (fun _ _ _ _ _ => (pg_tupK (K := K) (n := 2) rfl rfl (pgs_cons (pg_name (i := 6) sc__law_blend.nd rfl (Or.inl rfl)) (pgs_cons (pg_name (i := 7) sc__law_blend.nd rfl (Or.inl rfl)) pgs_nil)))) (fun _ _ _ _ _ => pts_nil) (fun _ _ _ _ _ => (pe_cal (ok__law_between (K := K) T) (hr.mono (by decide)) (by rfl) (pa_cons (pv 6) (pa_cons (pv 7) (pa_cons (pv 2) pa_nil)))))) pa_nil))))))
      (pss_one (ps_ret (pe_ctK (r := DL.rTupleOf K) call_tuple_of' (by decide +kernel) (T.free "tuple" (by decide +kernel)) (by rfl) (pa_cons (pv 3) pa_nil)))))), fun b ds Q p => ?_⟩
  obtain ⟨t1, t2, u, v, rfl, ht1, ht2, z1, z2, u0, u1, v0, v1, q⟩ := p
  obtain ⟨l1, r1⟩ := ht1.rows
  obtain ⟨l2, r2⟩ := ht2.rows
  simp only [startD, List.map_nil, dtab_eq]
  repeat walk_at "d"
  refine de_lstO ?_
  repeat walk_at "d"
  intro f hf
  repeat walk_at "d"
  refine dx_for (di_zipT ?_)
  repeat walk_at "d"
  refine ⟨_, _, rfl, fun i d => ∃ (x y z u' : Option Dt) (ow : Own), d = ⟨[some (.tup (t1.map drow)), some (.tup (t2.map drow)), some (.tup [.int u, .int v]), some (.ptr f), x, y, z, u'], ow⟩ ∧ ow f = some (.lst (((bld (wc u v) (wd u v) t1 t2).take i).map drow)), ?_, fun _ _ _ _ => trivial, ?_, ?_⟩
  · exact ⟨_, _, _, _, _, rfl, Own.put_same⟩
  · rintro i x d hx ⟨x1, x2, x3, x4, ow, rfl, hfo⟩
    obtain ⟨y, z, hy, hz, rfl⟩ := zipD_get hx
    obtain ⟨a, ha, rfl⟩ := map_get hy
    obtain ⟨e, he, rfl⟩ := map_get hz
    have hi : i < 4 := by rw [← l1]; exact (List.getElem?_eq_some_iff.mp ha).1
    have la := (r1 i a ha).2
    have le := (r2 i e he).2
    simp only [drow]
    repeat walk_at "d"
    refine de_append ?_
    repeat walk_at "d"
    refine ⟨f, _, rfl, hfo, ?_⟩
    repeat walk_at "d"
    refine de_lcM (by walk_at "w") (by walk_at "w") ?_
    refine di_zipT ?_
    repeat walk_at "d"
    refine ⟨_, _, rfl, by rw [zipD_len, List.length_map, List.length_map]; omega, fun _ _ => trivial, fun k => dq (mixR (wc u v) (wd u v) (a.getD k 0) (e.getD k 0)), ?_, ?_⟩
    · intro b k x hx
      obtain ⟨y, z, hy, hz, rfl⟩ := zipD_get hx
      obtain ⟨p, hp, rfl⟩ := map_get hy
      obtain ⟨s, hs, rfl⟩ := map_get hz
      dsimp only [wipeD, List.map, List.set]
      rw [show a.getD k 0 = p by rw [List.getD_eq_getElem?_getD, hp]; rfl, show e.getD k 0 = s by rw [List.getD_eq_getElem?_getD, hs]; rfl]
      repeat walk_at "d"
      refine ⟨p, s, u, v, rfl, (z1 a (List.mem_of_getElem? ha) p (List.mem_of_getElem? hp)).sz (by decide), (z2 e (List.mem_of_getElem? he) s (List.mem_of_getElem? hs)).sz (by decide), u0, u1, v0, v1, ?_⟩
      exact ⟨rfl, rfl⟩
    · have e1 : (List.range (zipD (a.map dq) (e.map dq)).length).map (fun k => dq (mixR (wc u v) (wd u v) (a.getD k 0) (e.getD k 0))) = (List.zipWith (mixR (wc u v) (wd u v)) a e).map dq := by
        rw [zipD_len, List.length_map, List.length_map, show min a.length e.length = a.length by omega, ← zipWith_getD (f := mixR (wc u v) (wd u v)) 0 0 (show a.length = e.length by omega), List.map_map]; rfl
      rw [e1]
      repeat walk_at "d"
      refine ⟨_, hfo, by rw [List.length_map, List.length_take]; omega, ?_⟩
      refine ⟨_, _, _, _, _, rfl, ?_⟩
      rw [Own.put_same]
      unfold bld
      rw [zipWith_take ha he, List.map_append]; rfl
  · rintro d ⟨x1, x2, x3, x4, ow, rfl, hfo⟩
    rw [zipD_len, List.length_map, List.length_map, l1, l2, List.take_of_length_le (by unfold bld; rw [List.length_zipWith]; omega)] at hfo
    repeat walk_at "d"
    refine dc_tupO hfo ?_
    exact q
theorem bld_ok {c d : Rat} (h : Wt c d) {t1 t2 : List (List Rat)} (h1 : TblOk t1) (h2 : TblOk t2) : TblOk (bld c d t1 t2) := by
  obtain ⟨a, b1, b2, c1, c2, c3, d1, d2, d3, d4, rfl, ha, hb, hc, hd⟩ := h1
  obtain ⟨a', b1', b2', c1', c2', c3', d1', d2', d3', d4', rfl, ha', hb', hc', hd'⟩ := h2
  obtain ⟨k0, k1, k2⟩ := h
  have m0 : ∀ {x y : Rat}, 0 ≤ x → 0 ≤ y → 0 ≤ mixR c d x y := fun hx hy => by
    have p1 := Rat.mul_nonneg k0 hx
    have p2 := Rat.mul_nonneg k1 hy
    unfold mixR
    grind
  have m1 : ∀ {x y x' y' : Rat}, x ≤ x' → y ≤ y' → mixR c d x y ≤ mixR c d x' y' := fun hx hy => by
    have p1 := Rat.mul_le_mul_of_nonneg_left hx k0
    have p2 := Rat.mul_le_mul_of_nonneg_left hy k1
    unfold mixR
    grind
  refine ⟨mixR c d a a', mixR c d b1 b1', mixR c d b2 b2', mixR c d c1 c1', mixR c d c2 c2', mixR c d c3 c3', mixR c d d1 d1', mixR c d d2 d2', mixR c d d3 d3', mixR c d d4 d4', rfl, ?_, ⟨m0 hb.1 hb'.1, m1 hb.2.1 hb'.2.1, ?_⟩, ⟨m0 hc.1 hc'.1, m1 hc.2.1 hc'.2.1, m1 hc.2.2.1 hc'.2.2.1, ?_⟩, ⟨m0 hd.1 hd'.1, m1 hd.2.1 hd'.2.1, m1 hd.2.2.1 hd'.2.2.1, m1 hd.2.2.2.1 hd'.2.2.2.1, ?_⟩⟩
  · subst ha; subst ha'; unfold mixR; grind
  · have e1 := hb.2.2; have e2 := hb'.2.2
    unfold mixR
    have : c * b1 + d * b1' + (c * b2 + d * b2') = c * (b1 + b2) + d * (b1' + b2') := by grind
    rw [this, e1, e2]; grind
  · have e1 := hc.2.2.2; have e2 := hc'.2.2.2
    unfold mixR
    have : c * c1 + d * c1' + (c * c2 + d * c2') + (c * c3 + d * c3') = c * (c1 + c2 + c3) + d * (c1' + c2' + c3') := by grind
    rw [this, e1, e2]; grind
  · have e1 := hd.2.2.2.2; have e2 := hd'.2.2.2.2
    unfold mixR
    have : c * d1 + d * d1' + (c * d2 + d * d2') + (c * d3 + d * d3') + (c * d4 + d * d4') = c * (d1 + d2 + d3 + d4) + d * (d1' + d2' + d3' + d4') := by grind
    rw [this, e1, e2]; grind
theorem fold_mix {c d : Rat} : ∀ (fac : List Int) (l1 l2 : List Rat) (s1 s2 : Rat), l1.length = l2.length → (fac.zip (List.zipWith (mixR c d) l1 l2)).foldl (fun s p => s + (p.1 : Rat) * p.2) (mixR c d s1 s2) = mixR c d ((fac.zip l1).foldl (fun s p => s + (p.1 : Rat) * p.2) s1) ((fac.zip l2).foldl (fun s p => s + (p.1 : Rat) * p.2) s2)
  | [], _, _, _, _, _ => by simp
  | _ :: _, [], [], _, _, _ => by simp
  | _ :: _, [], _ :: _, _, _, h => by simp at h
  | _ :: _, _ :: _, [], _, _, h => by simp at h
  | x :: fac, y :: l1, z :: l2, s1, s2, h => by
    rw [List.zipWith_cons_cons, List.zip_cons_cons, List.zip_cons_cons, List.zip_cons_cons, List.foldl_cons, List.foldl_cons, List.foldl_cons, ← fold_mix fac l1 l2 _ _ (by simpa using h)]
    congr 1
    unfold mixR
    grind
theorem wrt_bld {c d : Rat} (h : Wt c d) {t1 t2 : List (List Rat)} (h1 : TblOk t1) (h2 : TblOk t2) (f : Frm) : wrt f (bld c d t1 t2) = mixR c d (wrt f t1) (wrt f t2) := by
  have ef : (bld c d t1 t2).flatten = List.zipWith (mixR c d) t1.flatten t2.flatten ∧ t1.flatten.length = t2.flatten.length := by
    obtain ⟨a, b1, b2, c1, c2, c3, d1, d2, d3, d4, rfl, _⟩ := h1
    obtain ⟨a', b1', b2', c1', c2', c3', d1', d2', d3', d4', rfl, _⟩ := h2
    exact ⟨rfl, rfl⟩
  have en : (f.num : Rat) = mixR c d (f.num : Rat) (f.num : Rat) := by
    unfold mixR
    have := h.one
    rw [← Rat.add_mul, this, Rat.one_mul]
  unfold wrt
  rw [ef.1]
  conv => lhs; rw [en]
  exact fold_mix _ _ _ _ _ ef.2
theorem mix_nn {c d : Rat} (h : Wt c d) {x y : Rat} (hx : 0 ≤ x) (hy : 0 ≤ y) : 0 ≤ mixR c d x y := by
  have p1 := Rat.mul_nonneg h.c0 hx
  have p2 := Rat.mul_nonneg h.d0 hy
  unfold mixR
  grind
theorem keep_bld {c d : Rat} (h : Wt c d) {t1 t2 : List (List Rat)} (h1 : TblOk t1) (h2 : TblOk t2) {fs : List Frm} (k1 : Keep fs t1) (k2 : Keep fs t2) : Keep fs (bld c d t1 t2) := fun f hf => by
  rw [wrt_bld h h1 h2]; exact mix_nn h (k1 f hf) (k2 f hf)
/-- a table's size by its bottoms -/
theorem szT_of {t : List (List Rat)} (h : TblOk t) (hd : ∀ r ∈ t.drop 1, ∀ s ∈ r, s.den < 10 ^ 19) : SzT 310 t := by
  have one : ∀ s : Rat, 0 ≤ s → s ≤ 1 → s.den < 10 ^ 19 → SzR 310 s := fun s s0 s1 hs => by
    have h1 : s.num ≤ (s.den : Int) := by
      have h3 := (Rat.le_iff s 1).mp s1
      have e1 : (1 : Rat).num = 1 := rfl
      have e2 : (1 : Rat).den = 1 := rfl
      rw [e1, e2] at h3
      omega
    have h0 := Rat.num_nonneg.mpr s0
    have hp : (10 : Nat) ^ 19 ≤ 2 ^ 310 := Nat.le_trans (show (10 : Nat) ^ 19 ≤ 2 ^ 64 by decide) (Nat.pow_le_pow_right (by decide) (by decide))
    exact ⟨by omega, by omega⟩
  obtain ⟨a, b1, b2, c1, c2, c3, d1, d2, d3, d4, rfl, ha, hb, hc, hd'⟩ := h
  intro r hr s hs
  simp only [List.drop_succ_cons, List.drop_zero] at hd
  have bd : ∀ r, r = [b1, b2] ∨ r = [c1, c2, c3] ∨ r = [d1, d2, d3, d4] → ∀ s ∈ r, 0 ≤ s ∧ s ≤ 1 := by
    intro r hr s hs
    obtain ⟨y1, y2, y3⟩ := hb
    obtain ⟨z1, z2, z3, z4⟩ := hc
    obtain ⟨w1, w2, w3, w4, w5⟩ := hd'
    rcases hr with e | e | e <;> (subst e; simp only [List.mem_cons, List.not_mem_nil, or_false] at hs)
    · rcases hs with e | e <;> (subst e; constructor <;> grind)
    · rcases hs with e | e | e <;> (subst e; constructor <;> grind)
    · rcases hs with e | e | e | e <;> (subst e; constructor <;> grind)
  have hr0 := hr
  simp only [List.mem_cons, List.not_mem_nil, or_false] at hr
  rcases hr with e | e | e | e
  · subst e
    rw [List.mem_singleton.mp hs, ha]
    exact ⟨by decide +kernel, by decide +kernel⟩
  · obtain ⟨p, q⟩ := bd r (.inl e) s hs
    exact one s p q (hd r (by rw [e]; simp) s hs)
  · obtain ⟨p, q⟩ := bd r (.inr (.inl e)) s hs
    exact one s p q (hd r (by rw [e]; simp) s hs)
  · obtain ⟨p, q⟩ := bd r (.inr (.inr e)) s hs
    exact one s p q (hd r (by rw [e]; simp) s hs)
end
end Cab
/-! W8 -/
set_option Elab.async false
set_option linter.all false
set_option maxRecDepth 100000
set_option maxHeartbeats 4000000
namespace Cab
open PySem PySem.Spec PyProof.Rows L2 DL
local macro_rules | `(tactic| walk_at "d") => `(tactic| first
  | with_reducible refine dx_seq ?_ | with_reducible refine dx_ret ?_ | with_reducible refine dx_asg ?_ | ((with_reducible refine dg_name ?_); dsimp only [List.set])
  | with_reducible refine de_op ?_ | ((with_reducible refine' de_var ?h1 ?_); (case h1 => exact rfl)) | with_reducible refine de_int ?_ | with_reducible refine da_cons ?_ | with_reducible refine da_nil ?_
  | ((with_reducible refine' dr_xT ?h1 ?_); (case h1 => exact rfl)) | ((with_reducible refine' dr_xL ?h1 ?_); (case h1 => exact rfl)) | with_reducible refine dr_I0 ?_ | with_reducible refine dr_I0b ?_ | with_reducible refine de_callP ?_ | with_reducible refine de_callA ?_
  | with_reducible refine de_cb ?_ | with_reducible refine de_un ?_ | with_reducible refine du_I ?_ | with_reducible refine de_bl ?_ | with_reducible refine de_non ?_ | with_reducible refine de_str ?_ | with_reducible refine de_ty ?_
  | with_reducible refine dr_eqI ?_ | with_reducible refine dr_neI ?_ | with_reducible refine dr_eqS ?_ | with_reducible refine dr_isN ?_ | with_reducible refine dr_notN ?_
  | with_reducible refine dt_and ?_ | with_reducible refine dt_or ?_ | with_reducible refine dt_not ?_ | with_reducible refine de_if ?_ | with_reducible refine de_andV ?_ | with_reducible refine de_orV ?_ | with_reducible refine de_notV ?_
  | ((with_reducible refine dt_test ?_)) | ((with_reducible refine dt_B ?_))
  | with_reducible refine dx_par' ?_ | with_reducible refine dx_par3' ?_ | with_reducible refine ex_bl ?_ | with_reducible refine ex_int ?_ | with_reducible refine isi_int ?_ | with_reducible refine isi_intB ?_ | with_reducible refine isi_tup ?_ | with_reducible refine isi_tupS ?_ | with_reducible refine isi_str ?_ | with_reducible refine de_chain ?_ | with_reducible refine dt_chain ?_ | with_reducible refine iteT ?_ | with_reducible refine iteF ?_ | with_reducible refine dx_if ?_ | with_reducible refine dx_drop ?_ | with_reducible refine dx_cont ?_ | with_reducible refine dx_next ?_
  | with_reducible refine dc_abs ?_ | with_reducible refine dc_lenT ?_ | with_reducible refine dc_lenL ?_ | with_reducible refine dc_int ?_ | with_reducible refine dc_max2 ?_ | with_reducible refine dc_min2 ?_ | with_reducible refine dc_tupL ?_
  | with_reducible refine de_fldF ?_ ?_ ?_ | with_reducible refine de_tup ?_ | ((with_reducible refine len_ok ?h1 ?_); (case h1 => exact rfl))
  | ((with_reducible refine iteT' ?h1 ?_); (case h1 => rfl)) | ((with_reducible refine iteF' ?h1 ?_); (case h1 => rfl))
  | with_reducible refine ex_int2 ?_ | ((with_reducible refine' dg_tup ?h1 ?_); (case h1 => rfl)) | with_reducible refine dgs_cons ?_ | with_reducible refine dgs_nil ?_ | with_reducible refine dc_lenX ?_ | with_reducible refine dr_inX ?_
  | dsimp only [List.set])
/-- a comprehension's targets -/
local macro_rules | `(tactic| walk_at "w") => `(tactic| repeat first
  | exact wp_name (by simp) | exact mo_name | exact wps_nil | exact mos_nil
  | refine wp_tup ?_ | refine wps_cons ?_ ?_ ?_ ?_ | refine mo_tup ?_ | refine mos_cons ?_ ?_)
/-- ends that are told by a value: a bool, a pair -/
local macro_rules | `(tactic| walk_at "e") => `(tactic| first
  | walk_at "d"
  | ((with_reducible refine Exists.intro _ (And.intro rfl ?_))))
section
variable {P : Program} {w : World} {K : PySem.W.Frag} {mg : Str → Option Value} {base : Heap}
/-! ### the law -/
/-- a table that fits -/
structure Fit (c : Cus) (o : Str) (rs : List Rcp) (t : List (List Rat)) : Prop where
  tbl : TblOk t
  keep : Keep (rooms c o rs) t
  sz : SzT 310 t
theorem Fit.some {c : Cus} {o : Str} {rs : List Rcp} {t : List (List Rat)} (h : Fit c o rs t) : Some1 (rooms c o rs) := ⟨t, h.tbl, h.keep⟩
theorem farL_len (r : Rid) (o : Str) (t : List (List Rat)) : (farL r o t).length = r.riders.length := by unfold farL; simp
theorem farL_at {r : Rid} {o : Str} {t : List (List Rat)} {i : Nat} (h : i < r.riders.length) : atI ((farL r o t).map dq) ((i : Nat) : Int) = some (dq (wrt (ffrm r o ((i : Nat) : Int)) t)) := by
  rw [dq_atI (by rw [farL_len]; exact h)]
  congr 2
  rw [List.getD_eq_getElem?_getD, List.getElem?_eq_getElem (by rw [farL_len]; exact h)]
  unfold farL
  simp
theorem far_sz {r : Rid} {o : Str} {t : List (List Rat)} (hr : RidOk r) (ht : TblOk t) (hz : SzT 310 t) (i : Int) : Sz (wrt (ffrm r o i) t) := by
  have h := wrtN_sz (s := t.flatten) (ffrm_ok hr o i) (fun x hx => by
    obtain ⟨l, hl, hxl⟩ := List.mem_flatten.mp hx
    exact hz l hl x hxl) 10 (Nat.le_refl _)
  rw [wrtN_all (ffrm_ok hr o i).1] at h
  exact h.sz (by decide)
def pr_right (K : PySem.W.Frag) : Pr := fun ds ob QD => ∃ (a : Addr) (n : Nat), ds = [.ptr a] ∧ JAt ob a n ∧ n ≤ 3 ∧ ∀ ob', Kp a ob ob' → QD (.bl true) ob'
theorem len__law_right {ds ob Q} (p : pr_right K ds ob Q) : ds.length = 1 := by obtain ⟨_, _, rfl, _⟩ := p; rfl
theorem sc__law_right : FnScope ["_law_jug_here", "_law_again", "_law_word", "_law_rules_here", "_law_rows", "_law_slips_here", "_law_trip_here", "_law_made", "_law_some", "_law_k", "_law_m", "_law_tables_here", "_law_each", "_law_weights", "_law_first", "_law_last", "_law_blend_here", "_law_share", "_law_told", "_law_one_fares", "_law_two_fares"] ["_law_jug_here"] (defScope (topS 113)) := ⟨rfl, rfl, rfl, by decide +kernel, rfl, by decide +kernel, by decide +kernel⟩
theorem ok__law_right (T : Txt K mg base) : Cal P w K mg base 11 "_law_right" ["_law_jug_here"] (spD K (pr_right K)) := by
  refine cal_mk (T.fn "_law_right" 113 (by decide +kernel)) sc__law_right (fun _ _ _ _ _ _ us hl => match us, hl with | [_], _ => rfl) (fun ds ob Q p => len__law_right p) fun cdv A outer s H f E hr =>
    ⟨_, (pss_cons (ps_for PassesOwn.never rfl (pi_range1 (by rfl) (T.free "range" (by decide +kernel)) (pa_cons pe_int pa_nil)) (pg_name (i := 1) sc__law_right.nd rfl (.inl rfl))
      (pss_cons (ps_asg (pe_tup (pa_cons (pe_cal (ok__law_one (K := K) T) (hr.mono (by decide)) (by rfl) (pa_cons (pv 0) (pa_cons (pe_lst (pa_cons pe_str (pa_cons pe_str (pa_cons pe_str pa_nil)))) pa_nil))) (pa_cons (pe_cal (ok__law_rules (K := K) T) (hr.mono (by decide)) (by rfl) (pa_cons (pv 0) pa_nil)) (pa_cons (pe_cal (ok__law_shares (K := K) T) (hr.mono (by decide)) (by rfl) (pa_cons (pv 0) pa_nil)) pa_nil)))) (pg_tupK (K := K) (n := 3) rfl rfl (pgs_cons (pg_name (i := 2) sc__law_right.nd rfl (.inr rfl)) (pgs_cons (pg_name (i := 3) sc__law_right.nd rfl (.inr rfl)) (pgs_cons (pg_name (i := 4) sc__law_right.nd rfl (.inl rfl)) pgs_nil)))))
      (pss_cons (ps_asg (pe_tup (pa_cons (pe_cal (ok__law_receipts (K := K) T) (hr.mono (by decide)) (by rfl) (pa_cons (pe_cal (ok__law_slips (K := K) T) (hr.mono (by decide)) (by rfl) (pa_cons (pv 0) (pa_cons (pv 2) (pa_cons (pv 4) (pa_cons pe_int pa_nil))))) pa_nil)) (pa_cons (pe_cal (ok__law_trip (K := K) T) (hr.mono (by decide)) (by rfl) (pa_cons (pv 0) (pa_cons pe_int pa_nil))) pa_nil))) (pg_tupK (K := K) (n := 2) rfl rfl (pgs_cons (pg_name (i := 5) sc__law_right.nd rfl (.inr rfl)) (pgs_cons (pg_name (i := 6) sc__law_right.nd rfl (.inl rfl)) pgs_nil))))
      (pss_cons (ps_asg (pe_tup (pa_cons (pe_cal (ok__law_cab_trip (K := K) T) (hr.mono (by decide)) (by rfl) (pa_cons (pv 6) pa_nil)) (pa_cons (pe_cal (ok_any_table (K := K) T) (hr.mono (by decide)) (by rfl) (pa_cons (pv 3) (pa_cons (pv 2) (pa_cons (pv 5) pa_nil)))) pa_nil))) (pg_tupK (K := K) (n := 2) rfl rfl (pgs_cons (pg_name (i := 7) sc__law_right.nd rfl (.inr rfl)) (pgs_cons (pg_name (i := 8) sc__law_right.nd rfl (.inl rfl)) pgs_nil))))
      (pss_cons (ps_if (pt_cmpR op_isN (pv 8) pe_non (nomark _)) (pss_one ps_continue) pss_nil)
      (pss_cons (ps_par (i := 9) (j := 10) rfl sc__law_right.nd rfl rfl (by decide) rfl rfl (pa_cons (pe_cal (ok__law_drop (K := K) T) (hr.mono (by decide)) (by rfl) (pa_cons (pv 0) (pa_cons (pe_cbK (r := DL.rLen K) call_len' boot_len (T.free "len" (by decide +kernel)) (by rfl) (pa_cons (pe_ixK (K := K) rfl (pv 6) pe_int) pa_nil)) pa_nil))) (pa_cons (pe_cal (ok__law_drop (K := K) T) (hr.mono (by decide)) (by rfl) (pa_cons (pv 0) (pa_cons (pe_cbK (r := DL.rLen K) call_len' boot_len (T.free "len" (by decide +kernel)) (by rfl) (pa_cons (pe_ixK (K := K) rfl (pv 6) pe_int) pa_nil)) pa_nil))) pa_nil)) (by rfl))
      (pss_cons (ps_set (i := 11) sc__law_right.nd rfl (.inl rfl) (pe_op op_cat (pe_lst (pa_cons (pv 8) pa_nil)) (pe_lc (own := [("_law_each", 12)]) (g := (gName 12)) (tt := tYes) rfl sc__law_right.nd (pi_listK (K := K) rfl (pe_lst (pa_cons (pv 9) (pa_cons (pv 10) pa_nil)))) (blkOk_by (own := [("_law_each", 12)]) (N := ["_law_jug_here", "_law_again", "_law_word", "_law_rules_here", "_law_rows", "_law_slips_here", "_law_trip_here", "_law_made", "_law_some", "_law_k", "_law_m", "_law_tables_here", "_law_each", "_law_weights", "_law_first", "_law_last", "_law_blend_here", "_law_share", "_law_told", "_law_one_fares", "_law_two_fares"]) (sc := (defScope (topS 113))) (by decide +kernel)) (fun _ _ _ _ _ => (pg_name (i := 12) sc__law_right.nd rfl (Or.inl rfl))) (fun _ _ _ _ _ => pts_nil) (fun _ _ _ _ _ => (pe_ixK (K := K) rfl (pe_cal (ok_certify_reached (K := K) T) (hr.mono (by decide)) (by rfl) (pa_cons (pv 7) (pa_cons (pv 12) (pa_cons (pv 3) (pa_cons (pv 2) (pa_cons (pv 5) pa_nil)))))) pe_int)))))
      (pss_cons (ps_set (i := 13) sc__law_right.nd rfl (.inl rfl) (pe_tup (pa_cons (pe_op op_add pe_int (pe_cal (ok__law_drop (K := K) T) (hr.mono (by decide)) (by rfl) (pa_cons (pv 0) (pa_cons pe_int pa_nil)))) (pa_cons (pe_cal (ok__law_drop (K := K) T) (hr.mono (by decide)) (by rfl) (pa_cons (pv 0) (pa_cons pe_int pa_nil))) pa_nil))))
      (pss_cons (ps_par (i := 14) (j := 15) rfl sc__law_right.nd rfl rfl (by decide) rfl rfl (pa_cons (pe_cal (ok__law_one (K := K) T) (hr.mono (by decide)) (by rfl) (pa_cons (pv 0) (pa_cons (pv 11) pa_nil))) (pa_cons (pe_cal (ok__law_one (K := K) T) (hr.mono (by decide)) (by rfl) (pa_cons (pv 0) (pa_cons (pv 11) pa_nil))) pa_nil)) (by rfl))
      (pss_cons (ps_set (i := 16) sc__law_right.nd rfl (.inl rfl) (pe_cal (ok__law_blend (K := K) T) (hr.mono (by decide)) (by rfl) (pa_cons (pv 14) (pa_cons (pv 15) (pa_cons (pv 13) pa_nil)))))
      (pss_cons (ps_if (pt_cmpR op_ge (pe_cbK (r := rMax K) (cr_max rfl) (by decide +kernel) (T.free "max" (by decide +kernel)) (by rfl) (pa_cons (pe_lc (own := [("_law_share", 17)]) (g := (gName 17)) (tt := tYes) rfl sc__law_right.nd (pi_tupK (K := K) rfl (pe_op (op_catTK (K := K) rfl) (pe_op (op_catTK (K := K) rfl) (pe_ixK (K := K) rfl (pv 16) pe_int) (pe_ixK (K := K) rfl (pv 16) pe_int)) (pe_ixK (K := K) rfl (pv 16) pe_int))) (blkOk_by (own := [("_law_share", 17)]) (N := ["_law_jug_here", "_law_again", "_law_word", "_law_rules_here", "_law_rows", "_law_slips_here", "_law_trip_here", "_law_made", "_law_some", "_law_k", "_law_m", "_law_tables_here", "_law_each", "_law_weights", "_law_first", "_law_last", "_law_blend_here", "_law_share", "_law_told", "_law_one_fares", "_law_two_fares"]) (sc := (defScope (topS 113))) (by decide +kernel)) (fun _ _ _ _ _ => (pg_name (i := 17) sc__law_right.nd rfl (Or.inl rfl))) (fun _ _ _ _ _ => pts_nil) (fun _ _ _ _ _ => (pe_ixK (K := K) rfl (pv 17) pe_int))) pa_nil)) (pe_op op_pow pe_int pe_int) (nomark _)) (pss_one ps_continue) pss_nil)
      (pss_cons (ps_if (pt_not (pt_val (pe_cal (ok_fits (K := K) T) (hr.mono (by decide)) (by rfl) (pa_cons (pv 16) (pa_cons (pv 3) (pa_cons (pv 2) (pa_cons (pv 5) pa_nil))))))) (pss_one (ps_ret pe_bl)) pss_nil)
      (pss_cons (ps_par3 (i := 18) (j := 19) (l := 20) rfl sc__law_right.nd rfl rfl rfl (by decide) (by decide) (by decide) rfl rfl rfl (pa_cons (pe_cal (ok_fares (K := K) T) (hr.mono (by decide)) (by rfl) (pa_cons (pv 7) (pa_cons (pv 2) (pa_cons (pv 16) pa_nil)))) (pa_cons (pe_cal (ok_fares (K := K) T) (hr.mono (by decide)) (by rfl) (pa_cons (pv 7) (pa_cons (pv 2) (pa_cons (pv 14) pa_nil)))) (pa_cons (pe_cal (ok_fares (K := K) T) (hr.mono (by decide)) (by rfl) (pa_cons (pv 7) (pa_cons (pv 2) (pa_cons (pv 15) pa_nil)))) pa_nil))) (by rfl))
      (pss_cons (ps_for PassesOwn.never rfl (pi_range1 (by rfl) (T.free "range" (by decide +kernel)) (pa_cons (pe_cbK (r := DL.rLen K) call_len' boot_len (T.free "len" (by decide +kernel)) (by rfl) (pa_cons (pe_ixK (K := K) rfl (pv 6) pe_int) pa_nil)) pa_nil)) (pg_name (i := 12) sc__law_right.nd rfl (.inl rfl))
      (pss_cons (ps_if (pt_cmpR (op_neDK (K := K) rfl (hu64 hr)) (pe_ixK (K := K) rfl (pv 18) (pv 12)) (pe_cal (ok__law_between (K := K) T) (hr.mono (by decide)) (by rfl) (pa_cons (pe_ixK (K := K) rfl (pv 19) (pv 12)) (pa_cons (pe_ixK (K := K) rfl (pv 20) (pv 12)) (pa_cons (pv 13) pa_nil)))) (nomark _)) (pss_one (ps_ret pe_bl)) pss_nil)
      (pss_cons (ps_if (pt_val (pe_cal (ok__law_under (K := K) T) (hr.mono (by decide)) (by rfl) (pa_cons (pe_cal (ok_greatest_fare (K := K) T) (hr.mono (by decide)) (by rfl) (pa_cons (pv 7) (pa_cons (pv 12) (pa_cons (pv 3) (pa_cons (pv 2) (pa_cons (pv 5) pa_nil)))))) (pa_cons (pe_ixK (K := K) rfl (pv 18) (pv 12)) pa_nil)))) (pss_one (ps_ret pe_bl)) pss_nil)
      (pss_one (ps_if (pt_val (pe_cal (ok__law_under (K := K) T) (hr.mono (by decide)) (by rfl) (pa_cons (pe_ixK (K := K) rfl (pv 18) (pv 12)) (pa_cons (pe_cal (ok_least_fare (K := K) T) (hr.mono (by decide)) (by rfl) (pa_cons (pv 7) (pa_cons (pv 12) (pa_cons (pv 3) (pa_cons (pv 2) (pa_cons (pv 5) pa_nil)))))) pa_nil)))) (pss_one (ps_ret pe_bl)) pss_nil)))))
      (pss_one (ps_if (pt_cmpR (op_neDK (K := K) rfl (hu64 hr)) (pe_ixK (K := K) rfl (pe_cal (ok_fares (K := K) T) (hr.mono (by decide)) (by rfl) (pa_cons (pv 7) (pa_cons (pv 2) (pa_cons (pe_ixK (K := K) rfl (pv 11) pe_int) pa_nil)))) (pv 9)) (pe_cal (ok_greatest_fare (K := K) T) (hr.mono (by decide)) (by rfl) (pa_cons (pv 7) (pa_cons (pv 9) (pa_cons (pv 3) (pa_cons (pv 2) (pa_cons (pv 5) pa_nil)))))) (nomark _)) (pss_one (ps_ret pe_bl)) pss_nil))))))))))))))))
      (pss_one (ps_ret pe_bl))), fun b ds ob Q p => ?_⟩
  obtain ⟨a, n, rfl, hj, hn, q⟩ := p
  simp only [startD, List.map_nil]
  repeat walk_at "d"
  refine dx_for (di_rng1 ?_)
  repeat walk_at "d"
  refine ⟨_, rfl, by omega, by omega, fun i d => ∃ (x1 x2 x3 x4 x5 x6 x7 x8 x9 x10 x11 x12 x13 x14 x15 x16 x17 x18 x19 x20 : Option Dt) (ow : Own), d = ⟨[some (.ptr a), x1, x2, x3, x4, x5, x6, x7, x8, x9, x10, x11, x12, x13, x14, x15, x16, x17, x18, x19, x20], ow⟩ ∧ JAt ow a (n + 2000 * i) ∧ Kp a ob ow, ?_, fun _ _ _ _ => trivial, ?_, ?_⟩
  · exact ⟨_, _, _, _, _, _, _, _, _, _, _, _, _, _, _, _, _, _, _, _, ob, rfl, hj, Kp.refl⟩
  · rintro i x d hx ⟨x1, x2, x3, x4, x5, x6, x7, x8, x9, x10, x11, x12, x13, x14, x15, x16, x17, x18, x19, x20, ow, rfl, jo, ko⟩
    obtain ⟨rfl, hi⟩ := rangeD_get hx
    have hi : i < 2 := by omega
    have again : ∀ (y1 y2 y3 y4 y5 y6 y7 y8 y9 y10 y11 y12 y13 y14 y15 y16 y17 y18 y19 y20 : Option Dt) (ow' : Own), JAt ow' a (n + 2000 * i + 2000) → Kp a ow ow' → ∃ (x1 x2 x3 x4 x5 x6 x7 x8 x9 x10 x11 x12 x13 x14 x15 x16 x17 x18 x19 x20 : Option Dt) (ow : Own), (⟨[some (.ptr a), y1, y2, y3, y4, y5, y6, y7, y8, y9, y10, y11, y12, y13, y14, y15, y16, y17, y18, y19, y20], ow'⟩ : DL.St) = ⟨[some (.ptr a), x1, x2, x3, x4, x5, x6, x7, x8, x9, x10, x11, x12, x13, x14, x15, x16, x17, x18, x19, x20], ow⟩ ∧ JAt ow a (n + 2000 * (i + 1)) ∧ Kp a ob ow :=
      fun y1 y2 y3 y4 y5 y6 y7 y8 y9 y10 y11 y12 y13 y14 y15 y16 y17 y18 y19 y20 ow' j k => ⟨_, _, _, _, _, _, _, _, _, _, _, _, _, _, _, _, _, _, _, _, ow', rfl, j.mono (by omega), ko.trans k⟩
    repeat walk_at "d"
    refine de_lstF ?_
    repeat walk_at "d"
    refine ⟨a, _, _, rfl, jo, by omega, by simp, by simp, fun o1 y j1 k1 hy => ?_⟩
    have hord : ∃ o : Str, y = .str o ∧ OrdOk o := by
      simp only [List.mem_cons, List.not_mem_nil, or_false] at hy
      rcases hy with e | e | e
      · exact ⟨_, e, .inl rfl⟩
      · exact ⟨_, e, .inr (.inl rfl)⟩
      · exact ⟨_, e, .inr (.inr rfl)⟩
    obtain ⟨o, rfl, ho⟩ := hord
    repeat walk_at "d"
    refine ⟨a, _, rfl, j1, by omega, fun o2 c j2 k2 hc => ?_⟩
    repeat walk_at "d"
    refine ⟨a, _, rfl, j2, by omega, fun o3 t0 j3 k3 ht0 => ?_⟩
    repeat walk_at "d"
    refine ⟨a, _, o, t0, rfl, j3, by omega, ht0, fun o4 rs j4 k4 hrl hrs => ?_⟩
    repeat walk_at "d"
    refine ⟨rs, rfl, hrl, hrs, ?_⟩
    repeat walk_at "d"
    refine ⟨a, _, 5, rfl, j4, by omega, by decide, by decide, fun o5 r j5 k5 hr0 => ?_⟩
    repeat walk_at "d"
    refine ⟨r, rfl, hr0.ok, ?_⟩
    have k05 : Kp a ow o5 := (((k1.trans k2).trans k3).trans k4).trans k5
    repeat walk_at "d"
    refine ⟨c, o, rs, rfl, hc, ho, by omega, hrs, fun hno => ?_, fun ta hta hza hka => ?_⟩
    · repeat walk_at "d"
      exact again _ _ _ _ _ _ _ _ _ _ _ _ _ _ _ _ _ _ _ _ o5 (j5.mono (by omega)) k05
    have fa : Fit c o rs ta := ⟨hta, hka, hza⟩
    have hs1 := fa.some
    have hrid := hr0.ok
    have hrl1 : 1 ≤ r.riders.length := hrid.2.1.1
    have hrl6 : r.riders.length ≤ 6 := hrid.2.1.2.1
    simp only [dtab_eq, dtrip_eq]
    repeat walk_at "d"
    rw [List.length_map]
    refine ⟨a, _, _, rfl, j5, by omega, by omega, by omega, fun o6 k j6 k6 c0 c1 => ?_⟩
    repeat walk_at "d"
    rw [List.length_map]
    refine ⟨a, _, _, rfl, j6, by omega, by omega, by omega, fun o7 m j7 k7 m0 m1 => ?_⟩
    have k07 : Kp a ow o7 := (k05.trans k6).trans k7
    repeat walk_at "d"
    refine de_lstO ?_
    repeat walk_at "d"
    intro p1 hp1
    have hp1a := j7.ne hp1
    refine de_lcNO (by walk_at "w") (by walk_at "w") ?_
    refine di_list ?_
    refine de_lstF ?_
    repeat walk_at "d"
    refine ⟨_, rfl, by simp, fun _ ow' => ow' = o7.put p1 (.lst [.tup (ta.map drow)]), fun i y => ∃ t, y = dtab t ∧ Fit c o rs t ∧ Top (rooms c o rs) (ffrm r o ([k, m].getD i 0)) (wrt (ffrm r o ([k, m].getD i 0)) t), rfl, fun _ _ _ _ => trivial, ?_, ?_⟩
    · rintro b i x ow' hx rfl
      have ex : x = .int ([k, m].getD i 0) ∧ 0 ≤ [k, m].getD i 0 ∧ [k, m].getD i 0 < r.riders.length := by
        have : i < 2 := (List.getElem?_eq_some_iff.mp hx).1
        have : i = 0 ∨ i = 1 := by omega
        rcases this with e | e <;> subst e
        · exact ⟨(Option.some.inj hx).symm, c0, c1⟩
        · exact ⟨(Option.some.inj hx).symm, m0, m1⟩
      obtain ⟨rfl, e0, e1⟩ := ex
      dsimp only [wipeD, List.map, List.set]
      generalize [k, m].getD i 0 = e at e0 e1
      repeat walk_at "d"
      refine ⟨r, e, c, o, rs, rfl, hrid, e0, e1, hc, ho, by omega, hrs, hs1, fun x t ht hz hk htop => ?_⟩
      repeat walk_at "d"
      exact ⟨rfl, t, rfl, ⟨ht, hk, hz⟩, htop⟩
    · rintro ys ow' rfl hyl hys p2 hp2
      obtain ⟨y1, y2, rfl⟩ : ∃ y1 y2, ys = [y1, y2] := by
        have h2 : ys.length = 2 := hyl
        match ys, h2 with
        | [y1, y2], _ => exact ⟨_, _, rfl⟩
      obtain ⟨t1, rfl, f1, top1⟩ := hys 0 _ rfl
      obtain ⟨t2, rfl, f2, -⟩ := hys 1 _ rfl
      have top1 : Top (rooms c o rs) (ffrm r o k) (wrt (ffrm r o k) t1) := top1
      have hp21 : p1 ≠ p2 := fun z => by rw [← z, Own.put_same] at hp2; cases hp2
      refine dr_cat (by simp) (fun p3 hp3 => ?_) ((Own.put_ne hp21).trans Own.put_same) Own.put_same
      refine dg_name ?_
      dsimp only [List.set]
      refine dx_frzS (k := 11) (a := p3) rfl Own.put_same ?_
      have hp2a : p2 ≠ a := (j7.put hp1a).ne hp2
      have hp3a : p3 ≠ a := ((j7.put hp1a).put hp2a).ne hp3
      have hp30 : ow p3 = none := ((k07.put hp1).put hp2).none hp3 hp3a
      repeat walk_at "d"
      refine ⟨a, _, 9, rfl, (((j7.put hp1a).put hp2a).put hp3a).del hp3a, by omega, by decide, by decide, fun o8 u j8 k8 u0 u1 => ?_⟩
      have k08 : Kp a ow o8 := Kp.trans ((((k07.put hp1).put hp2).put hp3).del hp30) k8
      repeat walk_at "d"
      refine ⟨a, _, 9, rfl, j8, by omega, by decide, by decide, fun o9 v j9 k9 v0 v1 => ?_⟩
      have pick : ∀ y, y ∈ [Dt.tup (ta.map drow)] ++ [dtab t1, dtab t2] → ∃ s, y = dtab s ∧ Fit c o rs s := fun y hy => by
        simp only [List.cons_append, List.nil_append, List.mem_cons, List.not_mem_nil, or_false] at hy
        rcases hy with e | e | e
        · exact ⟨ta, e, fa⟩
        · exact ⟨t1, e, f1⟩
        · exact ⟨t2, e, f2⟩
      repeat walk_at "d"
      refine ⟨a, _, _, rfl, j9, by omega, by simp, by simp, fun o10 y j10 k10 hy => ?_⟩
      obtain ⟨s1, rfl, g1⟩ := pick y hy
      repeat walk_at "d"
      refine ⟨a, _, _, rfl, j10, by omega, by simp, by simp, fun o11 y j11 k11 hy => ?_⟩
      obtain ⟨s2, rfl, g2⟩ := pick y hy
      have k11' : Kp a ow o11 := ((k08.trans k9).trans k10).trans k11
      repeat walk_at "d"
      refine ⟨s1, s2, 1 + u, v, rfl, g1.tbl, g2.tbl, g1.sz, g2.sz, by omega, by omega, by omega, by omega, ?_⟩
      have W := wt_ok (u := 1 + u) (v := v) (by omega) (by omega)
      have hb := bld_ok W g1.tbl g2.tbl
      have hk := keep_bld W g1.tbl g2.tbl g1.keep g2.keep
      have hw := wrt_bld W g1.tbl g2.tbl
      generalize hB : bld (wc (1 + u) v) (wd (1 + u) v) s1 s2 = tb at hb hk hw ⊢
      obtain ⟨q0, q1, q2, q3, rfl, n1, n2, n3⟩ : ∃ q0 q1 q2 q3 : List Rat, tb = [q0, q1, q2, q3] ∧ q1 ≠ [] ∧ q2 ≠ [] ∧ (q1 ++ q2 ++ q3).length = 9 := by
        obtain ⟨a, b1, b2, c1, c2, c3, d1, d2, d3, d4, rfl, _⟩ := hb
        exact ⟨_, _, _, _, rfl, by simp, by simp, rfl⟩
      have et : dtab [q0, q1, q2, q3] = .tup [drow q0, .tup (q1.map dq), .tup (q2.map dq), .tup (q3.map dq)] := rfl
      rw [et]
      repeat walk_at "d"
      have hne3 : q3 ≠ [] := fun z => by
        obtain ⟨a, b1, b2, c1, c2, c3, d1, d2, d3, d4, e, _⟩ := hb
        rw [z] at e; cases e
      refine de_lcM (by walk_at "w") (by walk_at "w") ?_
      refine di_tup ?_
      repeat walk_at "d"
      have hl9 := n3
      rw [List.length_append, List.length_append] at hl9
      refine dr_catT (by simpa using n1) (by simpa using n2) (by rw [List.length_map, List.length_map]; omega) ?_
      repeat walk_at "d"
      refine dr_catT (by simp [n1]) (by simpa using hne3) (by rw [List.length_append, List.length_map, List.length_map, List.length_map]; omega) ?_
      have eq3 : q1.map dq ++ q2.map dq ++ q3.map dq = (q1 ++ q2 ++ q3).map dq := by rw [List.map_append, List.map_append]
      rw [eq3]
      refine ⟨_, rfl, by rw [List.length_map]; omega, fun _ _ => trivial, fun i => .int (((q1 ++ q2 ++ q3).getD i 0).den : Int), ?_, ?_⟩
      · intro b i x hx
        obtain ⟨z, hz, rfl⟩ := map_get hx
        dsimp only [wipeD, List.map, List.set]
        rw [show (q1 ++ q2 ++ q3).getD i 0 = z by rw [List.getD_eq_getElem?_getD, hz]; rfl]
        simp only [dq]
        repeat walk_at "d"
        exact ⟨rfl, rfl⟩
      rw [List.length_map, lcM_map (g := fun z : Rat => Dt.int (z.den : Int)) (q1 ++ q2 ++ q3) 0, show (q1 ++ q2 ++ q3).map (fun z : Rat => Dt.int (z.den : Int)) = ((q1 ++ q2 ++ q3).map fun z : Rat => (z.den : Int)).map Dt.int by rw [List.map_map]; rfl]
      repeat walk_at "d"
      refine dc_maxL (by rw [List.length_map]; omega) fun mx hmx hall => ?_
      repeat walk_at "d"
      refine dr_I (show CPow 10 19 by unfold CPow; decide) ?_
      repeat walk_at "d"
      have e19 : (10 : Int) ^ (19 : Int).toNat = 10000000000000000000 := by decide
      rw [e19]
      by_cases hbig : 10000000000000000000 ≤ mx
      · refine iteT' (decide_eq_true hbig) ?_
        repeat walk_at "d"
        exact again _ _ _ _ _ _ _ _ _ _ _ _ _ _ _ _ _ _ _ _ o11 (j11.mono (by omega)) k11'
      refine iteF' (decide_eq_false hbig) ?_
      have hszb : SzT 310 [q0, q1, q2, q3] := szT_of hb fun r hr s hs => by
        have hs' : s ∈ q1 ++ q2 ++ q3 := by
          simp only [List.drop_succ_cons, List.drop_zero, List.mem_cons, List.not_mem_nil, or_false] at hr
          rcases hr with e | e | e <;> (subst e; simp [hs])
        have := hall _ (List.mem_map_of_mem (f := fun z : Rat => (z.den : Int)) hs')
        have p19 : (10 : Nat) ^ 19 = 10000000000000000000 := by decide
        rw [p19]
        omega
      have fb : Fit c o rs [q0, q1, q2, q3] := ⟨hb, hk, hszb⟩
      rw [← et]
      generalize [q0, q1, q2, q3] = tb at fb hw
      clear hszb hb hk et n1 n2 n3 hne3 eq3 hl9 hall hmx
      repeat walk_at "d"
      refine ⟨tb, c, o, rs, rfl, fb.tbl, fb.sz, hc, ho, by omega, hrs, ?_⟩
      rw [keepB_iff.mpr fb.keep]
      repeat walk_at "d"
      refine ⟨r, o, tb, rfl, hrid, ho, fb.tbl, fb.sz, ?_⟩
      repeat walk_at "d"
      refine ⟨r, o, s1, rfl, hrid, ho, g1.tbl, g1.sz, ?_⟩
      repeat walk_at "d"
      refine ⟨r, o, s2, rfl, hrid, ho, g2.tbl, g2.sz, ?_⟩
      repeat walk_at "d"
      refine dx_for (di_rng1 ?_)
      repeat walk_at "d"
      rw [List.length_map]
      refine ⟨_, rfl, by omega, by omega, fun j d => ∃ z : Option Dt, d = ⟨[some (.ptr a), some (.int (0 + (i : Int))), some (.str o), some (dcus c), some (.tup (t0.map drow)), some (.tup (rs.map (drcp K))), some (.tup [.tup (r.costs.map Dt.int), .tup (r.riders.map drider)]), some (dride K r), some (.tup (ta.map drow)), some (.int k), some (.int m), some (.lst ([.tup (ta.map drow)] ++ [dtab t1, dtab t2])), z, some (.tup [.int (1 + u), .int v]), some (dtab s1), some (dtab s2), some (dtab tb), x17, some (.tup ((farL r o tb).map dq)), some (.tup ((farL r o s1).map dq)), some (.tup ((farL r o s2).map dq))], o11⟩, ⟨_, rfl⟩, fun _ _ _ _ => trivial, ?_, ?_⟩
      · rintro j x d hx ⟨z, rfl⟩
        obtain ⟨rfl, hjr⟩ := rangeD_get hx
        rw [Int.zero_add]
        have hjr : j < r.riders.length := by omega
        have hsz : ∀ t, Fit c o rs t → Sz (wrt (ffrm r o ((j : Nat) : Int)) t) := fun t h => far_sz hrid h.tbl h.sz _
        have ew := hw (ffrm r o ((j : Nat) : Int))
        repeat walk_at "d"
        refine dr_xT (farL_at hjr) ?_
        repeat walk_at "d"
        refine dr_xT (farL_at hjr) ?_
        repeat walk_at "d"
        refine dr_xT (farL_at hjr) ?_
        repeat walk_at "d"
        refine ⟨_, _, 1 + u, v, rfl, hsz s1 g1, hsz s2 g2, by omega, by omega, by omega, by omega, ?_⟩
        rw [← ew]
        simp only [dq]
        refine dr_neP ?_
        rw [show (!decide ((wrt (ffrm r o ((j : Nat) : Int)) tb).num = (wrt (ffrm r o ((j : Nat) : Int)) tb).num ∧ (((wrt (ffrm r o ((j : Nat) : Int)) tb).den : Nat) : Int) = (((wrt (ffrm r o ((j : Nat) : Int)) tb).den : Nat) : Int))) = false by simp]
        repeat walk_at "d"
        refine ⟨r, ((j : Nat) : Int), c, o, rs, rfl, hrid, by omega, by omega, hc, ho, by omega, hrs, hs1, fun g hg => ?_⟩
        repeat walk_at "d"
        refine dr_xT (farL_at hjr) ?_
        repeat walk_at "d"
        refine ⟨_, _, rfl, hg.1.sz (by decide), hsz tb fb, ?_⟩
        rw [decide_eq_false (Rat.not_lt.mpr (hg.2.2 tb fb.tbl fb.keep))]
        repeat walk_at "d"
        refine dr_xT (farL_at hjr) ?_
        repeat walk_at "d"
        refine ⟨r, ((j : Nat) : Int), c, o, rs, rfl, hrid, by omega, by omega, hc, ho, by omega, hrs, hs1, fun g hg => ?_⟩
        repeat walk_at "d"
        refine ⟨_, _, rfl, hsz tb fb, hg.1.sz (by decide), ?_⟩
        rw [decide_eq_false (Rat.not_lt.mpr (hg.2.2 tb fb.tbl fb.keep))]
        repeat walk_at "d"
        exact ⟨_, rfl⟩
      · rintro d ⟨z, rfl⟩
        have hkn : k = ((k.toNat : Nat) : Int) := by omega
        repeat walk_at "d"
        refine ⟨r, o, t1, rfl, hrid, ho, f1.tbl, f1.sz, ?_⟩
        repeat walk_at "d"
        refine dr_xT (y := dq (wrt (ffrm r o k) t1)) (by rw [hkn]; exact farL_at (by omega)) ?_
        repeat walk_at "d"
        refine ⟨r, k, c, o, rs, rfl, hrid, by omega, by omega, hc, ho, by omega, hrs, hs1, fun g hg => ?_⟩
        have eg : g = wrt (ffrm r o k) t1 := by
          obtain ⟨-, ⟨tg, h1, h2, h3⟩, h4⟩ := hg
          have h5 := h4 t1 f1.tbl f1.keep
          have h6 := top1.2.2 tg h1 h2
          rw [h3] at h6
          exact Rat.le_antisymm h6 h5
        subst eg
        simp only [dq]
        refine dr_neP ?_
        rw [show (!decide ((wrt (ffrm r o k) t1).num = (wrt (ffrm r o k) t1).num ∧ (((wrt (ffrm r o k) t1).den : Nat) : Int) = (((wrt (ffrm r o k) t1).den : Nat) : Int))) = false by simp]
        repeat walk_at "d"
        exact again _ _ _ _ _ _ _ _ _ _ _ _ _ _ _ _ _ _ _ _ o11 (j11.mono (by omega)) k11'
  · rintro d ⟨x1, x2, x3, x4, x5, x6, x7, x8, x9, x10, x11, x12, x13, x14, x15, x16, x17, x18, x19, x20, ow, rfl, jo, ko⟩
    repeat walk_at "d"
    exact endD_all (q _ ko)
def pr_law : PrP := fun ds Q => ∃ sc : List Int, ds = [.lst (sc.map Dt.int)] ∧ sc.length ≤ 63 ∧ Q (.bl true)
theorem len_law {ds Q} (p : pr_law ds Q) : ds.length = 1 := by obtain ⟨_, rfl, _⟩ := p; rfl
theorem fn_pure {k : Nat} {x : Str} {N ps : List Str} {i : Nat} {fd : FuncData} {pr : PrP} (F : FunD K x x (defArgs (topS i)) (defBody (topS i)) (defScope (topS i)) [] [] (He.ga K x) fd) (S : FnScope N ps (defScope (topS i)))
    (hlen : ∀ ds QD, pr ds QD → ds.length = ps.length)
    (hbody : ∀ (cdv : Value) (A : Around) (outer : List Env) (s : Shared) (H : Hp) (f : Addr) (E : XK), Room k (A.deeper (envOfC x (defScope (topS i)) s.heap.objs.size f cdv)) →
      ∃ t, PSs (cxOf CX0 P w K mg base N x (defScope (topS i)) f cdv A outer s H E).nox (defBody (topS i)) t ∧ ∀ b : Bs, ∀ ds QD, pr ds QD → DX K b t ⟨startD N ds, own0⟩ { nx := fun _ => QD .non, rt := fun r _ => QD r }) : FnOk P w K mg base CX0 (k + 1) (He.ga K x) fd ps (spP K pr) :=
  FunD.ok F S (fun vs H Q E h => spP_len h hlen) (fun cdv A outer s H vs Q E hr h => by
    obtain ⟨t, h1, h2⟩ := hbody cdv A outer s H (He.ga K x) E hr
    exact ⟨t, h1.nox, run_pure h fun b ds QD p => h2 b ds QD p⟩)
theorem sc_law : FnScope ["_law_script", "_law_k"] ["_law_script"] (defScope (topS 114)) := ⟨rfl, rfl, rfl, by decide +kernel, rfl, by decide +kernel, by decide +kernel⟩
theorem ok_law (T : Txt K mg base) {fd : FuncData} (F : FunD K "law" "law" (defArgs (topS 114)) (defBody (topS 114)) (defScope (topS 114)) [] [] (He.ga K "law") fd) : FnOk P w K mg base CX0 12 (He.ga K "law") fd ["_law_script"] (spP K (pr_law)) := by
  refine fn_pure F sc_law (fun ds Q p => len_law p) fun cdv A outer s H f E hr =>
    ⟨_, (pss_one (ps_ret (pe_cbK (r := rAll K) (cr_all rfl) (by decide +kernel) (T.free "all" (by decide +kernel)) (by rfl) (pa_cons (pe_lc (own := [("_law_k", 1)]) (g := (gName 1)) (tt := tYes) rfl sc_law.nd (pi_range1 (by rfl) (T.free "range" (by decide +kernel)) (pa_cons (pe_cbK (r := DL.rMax2) (call_max2' rfl) (by decide +kernel) (T.free "max" (by decide +kernel)) (by rfl) (pa_cons pe_int (pa_cons (pe_cbK (r := DL.rMin2) (call_min2' rfl) (by decide +kernel) (T.free "min" (by decide +kernel)) (by rfl) (pa_cons (pe_cbK (r := DL.rLen K) call_len' boot_len (T.free "len" (by decide +kernel)) (by rfl) (pa_cons (pv 0) pa_nil)) (pa_cons pe_int pa_nil))) pa_nil))) pa_nil)) (blkOk_by (own := [("_law_k", 1)]) (N := ["_law_script", "_law_k"]) (sc := (defScope (topS 114))) (by decide +kernel)) (fun _ _ _ _ _ => (pg_name (i := 1) sc_law.nd rfl (Or.inl rfl))) (fun _ _ _ _ _ => pts_nil) (fun _ _ _ _ _ => (pe_cal (ok__law_right (K := K) T) (hr.mono (by decide)) (by rfl) (pa_cons (pe_cal (ok__law_jug (K := K) T) (hr.mono (by decide)) (by rfl) (pa_cons (pv 0) (pa_cons (pv 1) pa_nil))) pa_nil)))) pa_nil)))), fun b ds Q p => ?_⟩
  obtain ⟨sc, rfl, hl, q⟩ := p
  simp only [startD, List.map_nil]
  repeat walk_at "d"
  refine de_lcN (by walk_at "w") (by walk_at "w") ?_
  refine di_rng1 ?_
  repeat walk_at "d"
  rw [List.length_map]
  generalize hm : (if (if 3 < (sc.length : Int) then 3 else (sc.length : Int)) > 2 then if 3 < (sc.length : Int) then 3 else (sc.length : Int) else 2) = mm
  have hm2 : 2 ≤ mm ∧ mm ≤ 3 := by rw [← hm]; split <;> split <;> omega
  refine ⟨mm, rfl, by omega, by omega, by rw [rangeD_len]; omega, fun _ _ => True, fun _ y => y = .bl true, trivial, fun _ _ _ _ => trivial, ?_, ?_⟩
  · rintro b i x ow hx -
    obtain ⟨rfl, hi⟩ := rangeD_get hx
    dsimp only [wipeD, List.map, List.set]
    repeat walk_at "d"
    refine ⟨sc, _, rfl, by omega, by omega, by omega, fun ob' p hp hj hk => ?_⟩
    repeat walk_at "d"
    refine ⟨p, 3, rfl, hj, by omega, fun ob2 hk2 => ?_⟩
    exact ⟨trivial, rfl⟩
  · rintro ys ow - hlen hys
    have e : ys = (List.replicate ys.length true).map Dt.bl := by
      rw [List.map_replicate]
      apply List.ext_getElem (by simp)
      intro i h1 h2
      have := hys i _ (List.getElem?_eq_getElem h1)
      simp [this]
    rw [e]
    repeat walk_at "d"
    refine dc_all ?_
    rw [show (List.replicate ys.length true).all id = true by simp]
    exact q
end
end Cab
/-! HedC -/
set_option Elab.async false
set_option linter.all false
set_option maxRecDepth 100000
set_option maxHeartbeats 4000000
/-! The end. -/
namespace Cab
open PySem PySem.Spec PyProof.Rows L2 DL
/-- what the law's first call is told -/
theorem law_start {K : PySem.W.Frag} {H : Hp} {a : Addr} {ns : List Int} (hl : ns.length ≤ 63) (hT : H (He.tabOf K (He.codeOf K (PySem.Str.ofString "ranked_at", none))) = some (.tbl #[])) (hS : SqL K H a (ns.map V.int)) : spP K pr_law [.ref a] H (fun v _ => v = .bl true) fun _ _ _ => False := by
  have same : Same (fun b => match H b with | some (.tbl _) => none | o => o) H := fun b o e => by
    have e : (match H b with | some (.tbl _) => none | o => o) = some o := e
    cases q : H b with
    | none => rw [q] at e; cases e
    | some u =>
      rw [q] at e
      cases u <;> first | exact e | cases e
  refine ⟨fun b => match H b with | some (.tbl _) => none | o => o, [.lst (ns.map Dt.int)], own0, fun r _ => r = .bl true, same, ?_, (fun _ _ z => nomatch z), ⟨fun b ps e => ?_, fun p hp => ?_⟩, ⟨rfl, ns, rfl, hl, rfl⟩, ?_⟩
  · refine .one (relLst ?_ (relL_intsI ns))
    rcases hS with (z | ⟨o, z⟩) | z
    · exact .inl (.inl (by show (match H a with | some (.tbl _) => none | o => o) = _; rw [z]))
    · exact .inl (.inr ⟨o, by show (match H a with | some (.tbl _) => none | o => o) = _; rw [z]⟩)
    · exact .inr z
  · have e : (match H b with | some (.tbl _) => none | o => o) = some (.tbl ps) := e
    cases q : H b with
    | none => rw [q] at e; cases e
    | some u => rw [q] at e; cases u <;> cases e
  · rw [List.mem_singleton.mp hp]
    exact LamX.TabS.nil hT
  · rintro v H' F' r ob' _ _ _ _ _ _ _ rel q
    have q : r = .bl true := q
    subst q
    simpa only [Rel] using rel
theorem law_at {w : PySem.World} {K : PySem.W.Frag} {mg : Str → Option Value} {fa : Addr} {h : Heap} (X : K.In h) (G : h.Ns mainGlobals mg) (hfa : mg ("law" : Str) = some (.ref fa)) (c : SaysC h K) : LamX.LawAtS PySem.Challenge.rw_cabshares_k34_whole_mixtures_of_tables w K CX0 12 63 "_law_script" mg fa h := by
  have hm : (("law" : Str), 114) ∈ fnTab := by decide +kernel
  obtain ⟨fd, F⟩ := c.d.defs (d := fnD ("law", 114)) (List.mem_append_left _ (List.mem_map_of_mem hm))
  have e := hfa.symm.trans (He.glo_ok X G (c.d.facts (f := .glo "law") (List.mem_append_left _ (List.mem_map_of_mem (List.mem_append_left _ (List.mem_map_of_mem (f := (·.1)) hm))))))
  cases e
  have F : FunD K "law" "law" (defArgs (topS 114)) (defBody (topS 114)) (defScope (topS 114)) [] [] (He.ga K "law") fd := F
  have b := FunD.bindsA (ps := ["_law_script"]) F fun _ _ _ _ _ _ us hl => match us, hl with | [_], _ => rfl
  refine ⟨fd, [He.cT K ("ranked_at", none)], spP K pr_law, fun p hp => ?_, fun p hp => ?_, fun p hp => ?_, fun s u => b s [u] rfl, fun H a ns hl _ hT hS => law_start hl (hT _ List.mem_cons_self) hS, fun base X' G' tb => ok_law (txt_of X G c fun p hp => ?_) F⟩
  · rw [List.mem_singleton.mp hp]; exact c.empty _ List.mem_cons_self
  · rw [List.mem_singleton.mp hp]; exact c.out _ List.mem_cons_self
  · rw [List.mem_singleton.mp hp]; exact PySem.W.codeHd_of_K X (c.hd _ List.mem_cons_self)
  · rw [List.mem_singleton.mp hp]; exact tb _ List.mem_cons_self
end Cab
open PySem PySem.W PySem.Calls PyProof.Rows
theorem PySem.Challenge.cw_cabshares_k34_whole_mixtures_of_tables_holds : PySem.Challenge.rw_cabshares_k34_whole_mixtures_of_tables.Holds := by
  w_on; o_law
  refine HandSHeadRun.head_any (r := OpenLaw.row PySem.Challenge.rw_cabshares_k34_whole_mixtures_of_tables) (q := Cab.qv) (H := Cab.hkC) (ob := Cab.obC) (M := 7500) (loose := Cab.names) (d := HandSHeadRun.topDef (OpenLaw.row PySem.Challenge.rw_cabshares_k34_whole_mixtures_of_tables).prog 114) (kwd := []) Cab.obC_eq
    (by kernel_rfl) (fun s => by kernel_rfl) Cab.run (by kernel_rfl) (by kernel_rfl) (by kernel_rfl) (by rfl) (by first | assumption | decide +kernel) (by decide +kernel) ⟨rfl, rfl, rfl, rfl, rfl, by decide +kernel⟩ ?hw ?hc
  case hw => w_witness2
  case hc =>
    refine LamX.walk_ofTsE (l := PySem.Challenge.rw_cabshares_k34_whole_mixtures_of_tables) (n := 63) (k := 12) (x := "_law_script") (CX := fun _ => L2.CX0) rfl (by decide) (by kernel_rfl) ⟨rfl, by decide, by decide⟩ ?F (fun _ _ _ _ _ z => z)
    intro w mg fa h Y G hmg0
    obtain ⟨K, KX, c⟩ := Y
    have hmg : mg ("law" : PySem.Str) = some (.ref fa) := by
      have e : (HandSHeadRun.topDef (OpenLaw.row PySem.Challenge.rw_cabshares_k34_whole_mixtures_of_tables).prog 114).name = ("law" : PySem.Str) := by kernel_rfl
      rw [← e]
      exact hmg0
    exact ⟨K, KX, Cab.law_at KX G hmg c⟩
