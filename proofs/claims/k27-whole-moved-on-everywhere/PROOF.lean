import PyProof.Rows.All
import Wide.All
import OpenK.AllK
import Wide.FinOn
import PySem.Str
import HandS.ForMost
import HandS.Evl
import HandS.Deep
import HandS.IsInst
import HandS.Star
import HandS.TupAny
import HandS.Wide
import KE.KDictZip
import KE.GoesMore
import KE.GoesZip
import HandS.Walk
import PyProof.StrOps2
import HandS.EndBits
import PySem.Challenge.RW_lassoproof_k27_whole_moved_on_everywhere
set_option Elab.async false
set_option linter.all false
set_option maxRecDepth 100000
set_option maxHeartbeats 4000000
/-! K27, plain mathematics 1: terms, formulas, truth along a lasso by walking, moved, shrink. No program in sight. -/
namespace K27
open PySem

inductive Ok2 where | quo | rem deriving DecidableEq
inductive Op2 where | plus | minus | times | least | most deriving DecidableEq
/-- a term -/
inductive Tm where
  | num (n : Int) | nm (w : Str) | neg (t : Tm) | opk (o : Ok2) (t : Tm) (k : Int) | op2 (o : Op2) (t u : Tm)
  deriving DecidableEq
inductive Cm where | eq | lt | le deriving DecidableEq
inductive Un where | not | next | ev | al deriving DecidableEq
inductive Bi where | and | or | imp | same | untl | rel | unl | str deriving DecidableEq
/-- a formula -/
inductive Fm where
  | tt | ff | cmp (c : Cm) (t u : Tm) | un (o : Un) (f : Fm) | bi (o : Bi) (f g : Fm)
  deriving DecidableEq

def Ok2.ap : Ok2 → Int → Int → Int
  | .quo, i, k => i / k
  | .rem, i, k => i % k
def Op2.ap : Op2 → Int → Int → Int
  | .plus, i, j => i + j
  | .minus, i, j => i - j
  | .times, i, j => i * j
  | .least, i, j => if j < i then j else i
  | .most, i, j => if j > i then j else i
def Tm.val (r : Str → Int) : Tm → Int
  | .num n => n
  | .nm w => r w
  | .neg t => -(t.val r)
  | .opk o t k => o.ap (t.val r) k
  | .op2 o t u => o.ap (t.val r) (u.val r)
def Cm.ap : Cm → Int → Int → Bool
  | .eq, i, j => decide (i = j)
  | .lt, i, j => decide (i < j)
  | .le, i, j => decide (i ≤ j)

/-! ### walking: at most k steps from p, e if nothing is decided -/
def dec (s : Nat → Nat) (P Q : Nat → Bool) (e : Bool) : Nat → Nat → Bool
  | 0, _ => e
  | k + 1, p => if Q p then true else if P p then dec s P Q e k (s p) else false
def it (s : Nat → Nat) : Nat → Nat → Nat
  | 0, p => p
  | k + 1, p => it s k (s p)
/-- the first k places of the way from p hold all that follow -/
def Cov (s : Nat → Nat) (k p : Nat) : Prop := ∀ j, ∃ i, i < k ∧ it s j p = it s i p

section
variable {s : Nat → Nat} {P Q : Nat → Bool} {e : Bool}
theorem dec_at : ∀ (j k p : Nat), (∀ i, i < j → Q (it s i p) = false ∧ P (it s i p) = true) → (Q (it s j p) = true ∨ P (it s j p) = false) → j < k → dec s P Q e k p = Q (it s j p)
  | 0, 0, p, _, _, h => by omega
  | 0, k + 1, p, _, h, _ => by
    show (if Q p = true then true else if P p = true then dec s P Q e k (s p) else false) = Q p
    cases hq : Q p with
    | true => rfl
    | false =>
      rcases h with h | h
      · exact absurd (h.symm.trans hq) (by decide)
      · have h' : P p = false := h
        rw [h'] <;> rfl
  | j + 1, 0, p, _, _, h => by omega
  | j + 1, k + 1, p, hb, h, hk => by
    have h0 := hb 0 (by omega)
    have q0 : Q p = false := h0.1
    have p0 : P p = true := h0.2
    show (if Q p = true then true else if P p = true then dec s P Q e k (s p) else false) = Q (it s j (s p))
    rw [q0, p0]
    exact dec_at j k (s p) (fun i hi => hb (i + 1) (by omega)) h (by omega)
theorem dec_none : ∀ (k p : Nat), (∀ i, i < k → Q (it s i p) = false ∧ P (it s i p) = true) → dec s P Q e k p = e
  | 0, _, _ => rfl
  | k + 1, p, hb => by
    have h0 := hb 0 (by omega)
    have q0 : Q p = false := h0.1
    have p0 : P p = true := h0.2
    show (if Q p = true then true else if P p = true then dec s P Q e k (s p) else false) = e
    rw [q0, p0]
    exact dec_none k (s p) fun i hi => hb (i + 1) (by omega)
/-- is something decided within the first k places, and where first -/
theorem first_or : ∀ (k p : Nat), (∃ j, j < k ∧ (∀ i, i < j → Q (it s i p) = false ∧ P (it s i p) = true) ∧ (Q (it s j p) = true ∨ P (it s j p) = false)) ∨ ∀ i, i < k → Q (it s i p) = false ∧ P (it s i p) = true
  | 0, p => .inr fun i hi => absurd hi (Nat.not_lt_zero i)
  | k + 1, p => by
    rcases first_or k p with ⟨j, hj, h1, h2⟩ | h
    · exact .inl ⟨j, by omega, h1, h2⟩
    · by_cases hd : Q (it s k p) = true ∨ P (it s k p) = false
      · exact .inl ⟨k, by omega, h, hd⟩
      · refine .inr fun i hi => ?_
        by_cases hik : i < k
        · exact h i hik
        · have e : i = k := by omega
          subst e
          refine ⟨?_, ?_⟩
          · cases hq : Q (it s i p) with
            | true => exact absurd (.inl hq) hd
            | false => rfl
          · cases hp : P (it s i p) with
            | false => exact absurd (.inr hp) hd
            | true => rfl
/-- two numbers of steps that cover the way decide alike -/
theorem dec_cov {k m p : Nat} (hk : Cov s k p) (hm : Cov s m p) : dec s P Q e k p = dec s P Q e m p := by
  rcases first_or (s := s) (P := P) (Q := Q) k p with ⟨j, hj, h1, h2⟩ | h
  · obtain ⟨i, hi, ei⟩ := hm j
    have hji : j ≤ i := by
      refine Nat.le_of_not_lt fun hl => ?_
      have z := h1 i hl
      rw [← ei] at z
      rcases h2 with h2 | h2
      · rw [h2] at z
        exact absurd z.1 (by decide)
      · rw [h2] at z
        exact absurd z.2 (by decide)
    rw [dec_at j k p h1 h2 hj, dec_at j m p h1 h2 (by omega)]
  · rw [dec_none k p h, dec_none m p fun i hi => ?_]
    obtain ⟨i', hi', ei⟩ := hk i
    rw [ei]
    exact h i' hi'
theorem Cov.step {k p : Nat} (h : Cov s k p) : Cov s (k + 1) p := fun j => by
  obtain ⟨i, hi, e⟩ := h j
  exact ⟨i, by omega, e⟩
theorem Cov.next {k p : Nat} (h : ∀ q, Cov s k q) : dec s P Q e k p = (if Q p then true else if P p then dec s P Q e k (s p) else false) := by
  rw [dec_cov (h p) (h p).step] <;> rfl
theorem dec_map {s' : Nat → Nat} {P' Q' : Nat → Bool} {h : Nat → Nat} {D : Nat → Prop} (hD : ∀ p, D p → D (s' p)) (hs : ∀ p, D p → h (s' p) = s (h p)) (hP : ∀ p, D p → P' p = P (h p)) (hQ : ∀ p, D p → Q' p = Q (h p)) :
    ∀ (k p : Nat), D p → dec s' P' Q' e k p = dec s P Q e k (h p)
  | 0, _, _ => rfl
  | k + 1, p, d => by
    show (if Q' p = true then true else if P' p = true then dec s' P' Q' e k (s' p) else false) = (if Q (h p) = true then true else if P (h p) = true then dec s P Q e k (s (h p)) else false)
    rw [hQ p d, hP p d, dec_map hD hs hP hQ k (s' p) (hD p d), hs p d]
theorem it_map {s' : Nat → Nat} {h : Nat → Nat} {D : Nat → Prop} (hD : ∀ p, D p → D (s' p)) (hs : ∀ p, D p → h (s' p) = s (h p)) : ∀ (k p : Nat), D p → h (it s' k p) = it s k (h p)
  | 0, _, _ => rfl
  | k + 1, p, d => by
    show h (it s' k (s' p)) = it s k (s (h p))
    rw [it_map hD hs k (s' p) (hD p d), hs p d]
theorem dec_neg : ∀ (k p : Nat), (!dec s (fun q => !P q) (fun q => !Q q) e k p) = dec s Q (fun q => P q && Q q) (!e) k p
  | 0, p => rfl
  | k + 1, p => by
    show (!(if (!Q p) = true then true else if (!P p) = true then dec s (fun q => !P q) (fun q => !Q q) e k (s p) else false)) = (if (P p && Q p) = true then true else if Q p = true then dec s Q (fun q => P q && Q q) (!e) k (s p) else false)
    have ih := dec_neg k (s p)
    cases P p <;> cases Q p <;> simp [ih]
theorem dec_ff : ∀ (k p : Nat), dec s P (fun _ => false) false k p = false
  | 0, p => rfl
  | k + 1, p => by
    show (if false = true then true else if P p = true then dec s P (fun _ => false) false k (s p) else false) = false
    cases P p <;> simp [dec_ff k (s p)]
theorem dec_tt : ∀ (k p : Nat), dec s (fun _ => true) Q true k p = true
  | 0, p => rfl
  | k + 1, p => by
    show (if Q p = true then true else if true = true then dec s (fun _ => true) Q true k (s p) else false) = true
    cases Q p <;> simp [dec_tt k (s p)]
end

/-! ### the lasso of n places that turns back to b -/
def nx (n b p : Nat) : Nat := if p + 1 < n then p + 1 else b
/-- the place m of the run -/
def pos (n b m : Nat) : Nat := if m < n then m else b + (m - b) % (n - b)
theorem nx_lt {n b p : Nat} (hb : b < n) : nx n b p < n := by unfold nx; split <;> omega
theorem nx_pos {n b m : Nat} (hb : b < n) : nx n b (pos n b m) = pos n b (m + 1) := by
  unfold nx pos
  have hL : 0 < n - b := by omega
  by_cases h1 : m < n
  · rw [if_pos h1]
    by_cases h2 : m + 1 < n
    · rw [if_pos h2, if_pos h2]
    · rw [if_neg h2, if_neg h2]
      have e : m + 1 - b = n - b := by omega
      rw [e, Nat.mod_self] <;> rfl
  · rw [if_neg h1, if_neg (show ¬ m + 1 < n by omega)]
    have e : m + 1 - b = (m - b) + 1 := by omega
    rw [e]
    have hl := Nat.mod_lt (m - b) hL
    by_cases h3 : (m - b) % (n - b) + 1 < n - b
    · rw [if_pos (by omega)]
      have q : ((m - b) + 1) % (n - b) = (m - b) % (n - b) + 1 := by
        rw [Nat.add_mod, Nat.mod_eq_of_lt (show 1 < n - b by omega), Nat.mod_eq_of_lt h3]
      rw [q] <;> omega
    · rw [if_neg (by omega)]
      have q : ((m - b) + 1) % (n - b) = 0 := by
        have e2 : (m - b) % (n - b) + 1 = n - b := by omega
        have e3 : (m - b) + 1 = (n - b) * ((m - b) / (n - b)) + (n - b) := by
          have := Nat.div_add_mod (m - b) (n - b)
          omega
        rw [e3, Nat.add_mod_right, Nat.mul_mod_right]
      rw [q] <;> rfl
theorem it_pos {n b : Nat} (hb : b < n) : ∀ (k m : Nat), it (nx n b) k (pos n b m) = pos n b (m + k)
  | 0, _ => rfl
  | k + 1, m => by
    show it (nx n b) k (nx n b (pos n b m)) = pos n b (m + (k + 1))
    rw [nx_pos hb, it_pos hb k (m + 1)]
    exact congrArg _ (by omega)
theorem pos_lt {n b p : Nat} (h : p < n) : pos n b p = p := if_pos h
theorem it_lt {n b p : Nat} (hb : b < n) (h : p < n) (k : Nat) : it (nx n b) k p = pos n b (p + k) := by
  have e := it_pos hb k p
  rw [pos_lt h] at e
  exact e
theorem pos_back {n b m : Nat} (hb : b < n) (h : n ≤ m) : pos n b m = pos n b (m - (n - b)) := by
  have e1 : pos n b m = b + (m - b) % (n - b) := if_neg (by omega)
  rw [e1]
  have e : m - b = (m - (n - b) - b) + (n - b) := by omega
  unfold pos
  split
  · rename_i h2
    rw [e, Nat.add_mod_right, Nat.mod_eq_of_lt (by omega)]
    omega
  · rw [e, Nat.add_mod_right]
theorem cov_pos {n b p : Nat} (hb : b < n) (hp : p < n) : ∀ k, ∃ i, i < n ∧ pos n b (p + k) = pos n b (p + i) := by
  intro k
  induction k using Nat.strongRecOn with
  | ind k ih =>
    by_cases h : k < n
    · exact ⟨k, h, rfl⟩
    · obtain ⟨i, hi, e⟩ := ih (k - (n - b)) (by omega)
      refine ⟨i, hi, ?_⟩
      rw [← e, pos_back hb (show n ≤ p + k by omega)]
      exact congrArg _ (by omega)
theorem cov_n {n b p : Nat} (hb : b < n) (hp : p < n) : Cov (nx n b) n p := fun j => by
  obtain ⟨i, hi, e⟩ := cov_pos hb hp j
  exact ⟨i, hi, by rw [it_lt hb hp, it_lt hb hp]; exact e⟩
/-- to the end of the list, then once round -/
theorem cov_twice {n b p : Nat} (hb : b < n) (hp : p < n) : Cov (nx n b) ((n - p) + (n - b)) p := fun j => by
  by_cases h : j < n - p
  · exact ⟨j, by omega, rfl⟩
  · refine ⟨(n - p) + (p + j - n) % (n - b), ?_, ?_⟩
    · have := Nat.mod_lt (p + j - n) (show 0 < n - b by omega)
      omega
    · rw [it_lt hb hp, it_lt hb hp]
      have e1 : pos n b (p + j) = b + (p + j - b) % (n - b) := if_neg (by omega)
      have e2 : pos n b (p + ((n - p) + (p + j - n) % (n - b))) = b + (p + ((n - p) + (p + j - n) % (n - b)) - b) % (n - b) := if_neg (by omega)
      rw [e1, e2]
      have e3 : p + j - b = (p + j - n) + (n - b) := by omega
      have e4 : p + ((n - p) + (p + j - n) % (n - b)) - b = (p + j - n) % (n - b) + (n - b) := by omega
      rw [e3, e4, Nat.add_mod_right, Nat.add_mod_right, Nat.mod_mod]
end K27

/-! K27, plain mathematics 2: what a formula says at a place of a lasso; moved on; shrunk; the lasso from the next place on. -/
namespace K27
open PySem
section
variable (n b : Nat) (ρ : Nat → Str → Int)
/-- the truth of a formula at a place -/
def tr : Fm → Nat → Bool
  | .tt, _ => true
  | .ff, _ => false
  | .cmp c t u, p => c.ap (t.val (ρ p)) (u.val (ρ p))
  | .un .not f, p => !tr f p
  | .un .next f, p => tr f (nx n b p)
  | .un .ev f, p => dec (nx n b) (fun _ => true) (tr f) false n p
  | .un .al f, p => dec (nx n b) (tr f) (fun _ => false) true n p
  | .bi .and f g, p => tr f p && tr g p
  | .bi .or f g, p => tr f p || tr g p
  | .bi .imp f g, p => !tr f p || tr g p
  | .bi .same f g, p => tr f p == tr g p
  | .bi .untl f g, p => dec (nx n b) (tr f) (tr g) false n p
  | .bi .unl f g, p => dec (nx n b) (tr f) (tr g) true n p
  | .bi .str f g, p => dec (nx n b) (tr g) (fun q => tr f q && tr g q) false n p
  | .bi .rel f g, p => !dec (nx n b) (fun q => !tr f q) (fun q => !tr g q) false n p
end

def cst (c : Bool) : Fm := if c then .tt else .ff
def moved (r : Str → Int) : Fm → Fm
  | .tt => .tt
  | .ff => .ff
  | .cmp c t u => cst (c.ap (t.val r) (u.val r))
  | .un .not f => .un .not (moved r f)
  | .un .next f => f
  | .un .ev f => .bi .or (moved r f) (.un .ev f)
  | .un .al f => .bi .and (moved r f) (.un .al f)
  | .bi .and f g => .bi .and (moved r f) (moved r g)
  | .bi .or f g => .bi .or (moved r f) (moved r g)
  | .bi .imp f g => .bi .imp (moved r f) (moved r g)
  | .bi .same f g => .bi .same (moved r f) (moved r g)
  | .bi .untl f g => .bi .or (moved r g) (.bi .and (moved r f) (.bi .untl f g))
  | .bi .unl f g => .bi .or (moved r g) (.bi .and (moved r f) (.bi .unl f g))
  | .bi .rel f g => .bi .and (moved r g) (.bi .or (moved r f) (.bi .rel f g))
  | .bi .str f g => .bi .and (moved r g) (.bi .or (moved r f) (.bi .str f g))

def isc : Fm → Bool
  | .tt => true
  | .ff => true
  | _ => false
def opp : Fm → Fm
  | .tt => .ff
  | .ff => .tt
  | f => .un .not f
def sh1 (o : Un) (f : Fm) : Fm := if o = .not then opp f else if isc f then f else .un o f
def wtf (o : Bi) (g : Fm) : Fm := match o with
  | .or => .tt
  | .unl => .tt
  | .untl => sh1 .ev g
  | _ => g
def wff (o : Bi) (g : Fm) : Fm := match o with
  | .and => .ff
  | .str => .ff
  | .imp => .tt
  | .same => opp g
  | .rel => sh1 .al g
  | _ => g
def wts (o : Bi) (f : Fm) : Fm := match o with
  | .and => f
  | .same => f
  | .str => .un .ev f
  | _ => .tt
def wfs (o : Bi) (f : Fm) : Fm := match o with
  | .or => f
  | .imp => .un .not f
  | .same => .un .not f
  | .unl => .un .al f
  | _ => .ff
def sh2 (o : Bi) (f g : Fm) : Fm := if f = .tt then wtf o g else if f = .ff then wff o g else if g = .tt then wts o f else if g = .ff then wfs o f else .bi o f g
def shr : Fm → Fm
  | .tt => .tt
  | .ff => .ff
  | .cmp c t u => .cmp c t u
  | .un o f => sh1 o (shr f)
  | .bi o f g => sh2 o (shr f) (shr g)

section
variable {n b : Nat} {ρ : Nat → Str → Int}
theorem tr_cst (c : Bool) (p : Nat) : tr n b ρ (cst c) p = c := by cases c <;> rfl
theorem dec_next (hb : b < n) {P Q : Nat → Bool} {e : Bool} {p : Nat} (hp : p < n) : dec (nx n b) P Q e n p = (if Q p then true else if P p then dec (nx n b) P Q e n (nx n b p) else false) := by
  rw [dec_cov (cov_n hb hp) (cov_n hb hp).step] <;> rfl
/-- moved on past the state of a place: true at the next place just when the formula is true at the place -/
theorem tr_moved (hb : b < n) : ∀ (f : Fm) (p : Nat), p < n → tr n b ρ (moved (ρ p) f) (nx n b p) = tr n b ρ f p
  | .tt, _, _ => rfl
  | .ff, _, _ => rfl
  | .cmp c t u, p, _ => tr_cst _ _
  | .un .not f, p, h => by
    show (!tr n b ρ (moved (ρ p) f) (nx n b p)) = !tr n b ρ f p
    rw [tr_moved hb f p h]
  | .un .next f, p, _ => rfl
  | .un .ev f, p, h => by
    show (tr n b ρ (moved (ρ p) f) (nx n b p) || dec (nx n b) (fun _ => true) (tr n b ρ f) false n (nx n b p)) = dec (nx n b) (fun _ => true) (tr n b ρ f) false n p
    rw [tr_moved hb f p h, dec_next hb h]
    cases tr n b ρ f p <;> rfl
  | .un .al f, p, h => by
    show (tr n b ρ (moved (ρ p) f) (nx n b p) && dec (nx n b) (tr n b ρ f) (fun _ => false) true n (nx n b p)) = dec (nx n b) (tr n b ρ f) (fun _ => false) true n p
    rw [tr_moved hb f p h, dec_next (p := p) hb h]
    cases tr n b ρ f p <;> rfl
  | .bi .and f g, p, h => by
    show (tr n b ρ (moved (ρ p) f) (nx n b p) && tr n b ρ (moved (ρ p) g) (nx n b p)) = (tr n b ρ f p && tr n b ρ g p)
    rw [tr_moved hb f p h, tr_moved hb g p h]
  | .bi .or f g, p, h => by
    show (tr n b ρ (moved (ρ p) f) (nx n b p) || tr n b ρ (moved (ρ p) g) (nx n b p)) = (tr n b ρ f p || tr n b ρ g p)
    rw [tr_moved hb f p h, tr_moved hb g p h]
  | .bi .imp f g, p, h => by
    show (!tr n b ρ (moved (ρ p) f) (nx n b p) || tr n b ρ (moved (ρ p) g) (nx n b p)) = (!tr n b ρ f p || tr n b ρ g p)
    rw [tr_moved hb f p h, tr_moved hb g p h]
  | .bi .same f g, p, h => by
    show (tr n b ρ (moved (ρ p) f) (nx n b p) == tr n b ρ (moved (ρ p) g) (nx n b p)) = (tr n b ρ f p == tr n b ρ g p)
    rw [tr_moved hb f p h, tr_moved hb g p h]
  | .bi .untl f g, p, h => by
    show (tr n b ρ (moved (ρ p) g) (nx n b p) || (tr n b ρ (moved (ρ p) f) (nx n b p) && dec (nx n b) (tr n b ρ f) (tr n b ρ g) false n (nx n b p))) = dec (nx n b) (tr n b ρ f) (tr n b ρ g) false n p
    rw [tr_moved hb f p h, tr_moved hb g p h, dec_next (p := p) hb h]
    cases tr n b ρ f p <;> cases tr n b ρ g p <;> rfl
  | .bi .unl f g, p, h => by
    show (tr n b ρ (moved (ρ p) g) (nx n b p) || (tr n b ρ (moved (ρ p) f) (nx n b p) && dec (nx n b) (tr n b ρ f) (tr n b ρ g) true n (nx n b p))) = dec (nx n b) (tr n b ρ f) (tr n b ρ g) true n p
    rw [tr_moved hb f p h, tr_moved hb g p h, dec_next (p := p) hb h]
    cases tr n b ρ f p <;> cases tr n b ρ g p <;> rfl
  | .bi .str f g, p, h => by
    show (tr n b ρ (moved (ρ p) g) (nx n b p) && (tr n b ρ (moved (ρ p) f) (nx n b p) || dec (nx n b) (tr n b ρ g) (fun q => tr n b ρ f q && tr n b ρ g q) false n (nx n b p))) = dec (nx n b) (tr n b ρ g) (fun q => tr n b ρ f q && tr n b ρ g q) false n p
    rw [tr_moved hb f p h, tr_moved hb g p h, dec_next (p := p) hb h]
    cases tr n b ρ f p <;> cases tr n b ρ g p <;> simp
  | .bi .rel f g, p, h => by
    show (tr n b ρ (moved (ρ p) g) (nx n b p) && (tr n b ρ (moved (ρ p) f) (nx n b p) || !dec (nx n b) (fun q => !tr n b ρ f q) (fun q => !tr n b ρ g q) false n (nx n b p))) = !dec (nx n b) (fun q => !tr n b ρ f q) (fun q => !tr n b ρ g q) false n p
    rw [tr_moved hb f p h, tr_moved hb g p h, dec_next (p := p) hb h]
    cases tr n b ρ f p <;> cases tr n b ρ g p <;> simp

/-! ### shrunk -/
theorem dec_succ {s : Nat → Nat} {P Q : Nat → Bool} {e : Bool} {k p : Nat} : dec s P Q e (k + 1) p = (if Q p then true else if P p then dec s P Q e k (s p) else false) := rfl
theorem tr_opp (f : Fm) (p : Nat) : tr n b ρ (opp f) p = !tr n b ρ f p := by cases f <;> rfl
theorem isc_cases {f : Fm} (h : isc f = true) : f = .tt ∨ f = .ff := by
  cases f with
  | tt => exact .inl rfl
  | ff => exact .inr rfl
  | cmp c t u => cases h
  | un o g => cases h
  | bi o g k => cases h
theorem tr_sh1 (hb : b < n) (o : Un) (f : Fm) (p : Nat) : tr n b ρ (sh1 o f) p = tr n b ρ (.un o f) p := by
  obtain ⟨k, rfl⟩ : ∃ k, n = k + 1 := ⟨n - 1, by omega⟩
  unfold sh1
  by_cases ho : o = .not
  · subst ho
    rw [if_pos rfl]
    exact tr_opp f p
  · rw [if_neg ho]
    cases hc : isc f with
    | false => rw [if_neg Bool.false_ne_true]
    | true =>
      rw [if_pos rfl]
      rcases isc_cases hc with rfl | rfl
      · cases o with
        | not => exact absurd rfl ho
        | next => rfl
        | ev => rfl
        | al => exact (dec_tt _ _).symm
      · cases o with
        | not => exact absurd rfl ho
        | next => rfl
        | ev => exact (dec_ff _ _).symm
        | al => rfl
theorem tr_wtf (hb : b < n) (o : Bi) (g : Fm) (p : Nat) : tr n b ρ (wtf o g) p = tr n b ρ (.bi o .tt g) p := by
  cases o with
  | and => exact (Bool.true_and _).symm
  | or => rfl
  | imp => exact (Bool.false_or _).symm
  | same =>
    show tr n b ρ g p = (true == tr n b ρ g p)
    cases tr n b ρ g p <;> rfl
  | untl => exact tr_sh1 hb _ _ _
  | unl => exact (dec_tt _ _).symm
  | rel =>
    show tr n b ρ g p = !dec (nx n b) (fun q => !true) (fun q => !tr n b ρ g q) false n p
    obtain ⟨k, rfl⟩ : ∃ k, n = k + 1 := ⟨n - 1, by omega⟩
    rw [dec_succ]
    cases tr (k + 1) b ρ g p <;> rfl
  | str =>
    show tr n b ρ g p = dec (nx n b) (tr n b ρ g) (fun q => true && tr n b ρ g q) false n p
    obtain ⟨k, rfl⟩ : ∃ k, n = k + 1 := ⟨n - 1, by omega⟩
    rw [dec_succ]
    cases tr (k + 1) b ρ g p <;> rfl
theorem tr_wff (hb : b < n) (o : Bi) (g : Fm) (p : Nat) : tr n b ρ (wff o g) p = tr n b ρ (.bi o .ff g) p := by
  cases o with
  | and => rfl
  | or => exact (Bool.false_or _).symm
  | imp => rfl
  | same =>
    refine (tr_opp g p).trans ?_
    show (!tr n b ρ g p) = (false == tr n b ρ g p)
    cases tr n b ρ g p <;> rfl
  | untl =>
    show tr n b ρ g p = dec (nx n b) (fun q => false) (tr n b ρ g) false n p
    obtain ⟨k, rfl⟩ : ∃ k, n = k + 1 := ⟨n - 1, by omega⟩
    rw [dec_succ]
    cases tr (k + 1) b ρ g p <;> rfl
  | unl =>
    show tr n b ρ g p = dec (nx n b) (fun q => false) (tr n b ρ g) true n p
    obtain ⟨k, rfl⟩ : ∃ k, n = k + 1 := ⟨n - 1, by omega⟩
    rw [dec_succ]
    cases tr (k + 1) b ρ g p <;> rfl
  | rel =>
    refine (tr_sh1 hb _ _ _).trans ?_
    show dec (nx n b) (tr n b ρ g) (fun _ => false) true n p = !dec (nx n b) (fun q => !false) (fun q => !tr n b ρ g q) false n p
    exact (dec_neg (P := fun _ => false) (Q := tr n b ρ g) (e := false) n p).symm
  | str => exact (dec_ff _ _).symm
theorem tr_wts (hb : b < n) (o : Bi) (f : Fm) (p : Nat) : tr n b ρ (wts o f) p = tr n b ρ (.bi o f .tt) p := by
  cases o with
  | and => exact (Bool.and_true _).symm
  | or => exact (Bool.or_true _).symm
  | imp => exact (Bool.or_true _).symm
  | same =>
    show tr n b ρ f p = (tr n b ρ f p == true)
    cases tr n b ρ f p <;> rfl
  | untl =>
    obtain ⟨k, rfl⟩ : ∃ k, n = k + 1 := ⟨n - 1, by omega⟩
    rfl
  | unl =>
    obtain ⟨k, rfl⟩ : ∃ k, n = k + 1 := ⟨n - 1, by omega⟩
    rfl
  | rel =>
    show true = !dec (nx n b) (fun q => !tr n b ρ f q) (fun q => false) false n p
    rw [dec_ff] <;> rfl
  | str =>
    show dec (nx n b) (fun _ => true) (tr n b ρ f) false n p = dec (nx n b) (fun _ => true) (fun q => tr n b ρ f q && true) false n p
    have e : (fun q => tr n b ρ f q && true) = tr n b ρ f := funext fun q => Bool.and_true _
    rw [e]
theorem tr_wfs (hb : b < n) (o : Bi) (f : Fm) (p : Nat) : tr n b ρ (wfs o f) p = tr n b ρ (.bi o f .ff) p := by
  cases o with
  | and => exact (Bool.and_false _).symm
  | or => exact (Bool.or_false _).symm
  | imp => exact (Bool.or_false _).symm
  | same =>
    show (!tr n b ρ f p) = (tr n b ρ f p == false)
    cases tr n b ρ f p <;> rfl
  | untl => exact (dec_ff _ _).symm
  | unl => rfl
  | rel =>
    obtain ⟨k, rfl⟩ : ∃ k, n = k + 1 := ⟨n - 1, by omega⟩
    rfl
  | str =>
    show false = dec (nx n b) (fun _ => false) (fun q => tr n b ρ f q && false) false n p
    have e : (fun q => tr n b ρ f q && false) = fun _ => false := funext fun q => Bool.and_false _
    rw [e, dec_ff]
theorem tr_sh2 (hb : b < n) (o : Bi) (f g : Fm) (p : Nat) : tr n b ρ (sh2 o f g) p = tr n b ρ (.bi o f g) p := by
  unfold sh2
  by_cases h1 : f = .tt
  · subst h1
    rw [if_pos rfl]
    exact tr_wtf hb o g p
  · rw [if_neg h1]
    by_cases h2 : f = .ff
    · subst h2
      rw [if_pos rfl]
      exact tr_wff hb o g p
    · rw [if_neg h2]
      by_cases h3 : g = .tt
      · subst h3
        rw [if_pos rfl]
        exact tr_wts hb o f p
      · rw [if_neg h3]
        by_cases h4 : g = .ff
        · subst h4
          rw [if_pos rfl]
          exact tr_wfs hb o f p
        · rw [if_neg h4]
/-- the truth hangs on the truths of the parts alone -/
theorem tr_un {f f' : Fm} (h : ∀ p, tr n b ρ f p = tr n b ρ f' p) (o : Un) (p : Nat) : tr n b ρ (.un o f) p = tr n b ρ (.un o f') p := by
  have e : tr n b ρ f = tr n b ρ f' := funext h
  cases o <;> simp only [tr, e]
theorem tr_bi {f f' g g' : Fm} (h : ∀ p, tr n b ρ f p = tr n b ρ f' p) (k : ∀ p, tr n b ρ g p = tr n b ρ g' p) (o : Bi) (p : Nat) : tr n b ρ (.bi o f g) p = tr n b ρ (.bi o f' g') p := by
  have e : tr n b ρ f = tr n b ρ f' := funext h
  have e' : tr n b ρ g = tr n b ρ g' := funext k
  cases o <;> simp only [tr, e, e']
theorem tr_shr (hb : b < n) : ∀ (f : Fm) (p : Nat), tr n b ρ (shr f) p = tr n b ρ f p
  | .tt, _ => rfl
  | .ff, _ => rfl
  | .cmp c t u, _ => rfl
  | .un o f, p => (tr_sh1 hb o (shr f) p).trans (tr_un (tr_shr hb f) o p)
  | .bi o f g, p => (tr_sh2 hb o (shr f) (shr g) p).trans (tr_bi (tr_shr hb f) (tr_shr hb g) o p)
end

/-! ### sizes and comparisons of what comes out -/
/-- depth, a comparison counting as one -/
def Fm.dp : Fm → Nat
  | .tt => 1
  | .ff => 1
  | .cmp _ _ _ => 1
  | .un _ f => f.dp + 1
  | .bi _ f g => max f.dp g.dp + 1
/-- the comparisons of a formula, from the left -/
def Fm.cmps : Fm → List Fm
  | .tt => []
  | .ff => []
  | .cmp c t u => [.cmp c t u]
  | .un _ f => f.cmps
  | .bi _ f g => f.cmps ++ g.cmps
theorem dp_pos (f : Fm) : 1 ≤ f.dp := by cases f <;> simp [Fm.dp]
theorem opp_dp (f : Fm) : (opp f).dp ≤ f.dp + 1 := by cases f <;> simp [opp, Fm.dp]
theorem sh1_dp (o : Un) (f : Fm) : (sh1 o f).dp ≤ f.dp + 1 := by
  unfold sh1
  split
  · exact opp_dp f
  · split
    · omega
    · exact Nat.le_refl _
theorem sh2_dp (o : Bi) (f g : Fm) : (sh2 o f g).dp ≤ max f.dp g.dp + 1 := by
  have hf := dp_pos f
  have hg := dp_pos g
  unfold sh2
  split
  · cases o <;> simp only [wtf] <;> first | (have := sh1_dp .ev g; omega) | (simp only [Fm.dp]; omega) | omega
  · split
    · cases o <;> simp only [wff] <;> first | (have := sh1_dp .al g; omega) | (have := opp_dp g; omega) | (simp only [Fm.dp]; omega) | omega
    · split
      · cases o <;> simp only [wts, Fm.dp] <;> omega
      · split
        · cases o <;> simp only [wfs, Fm.dp] <;> omega
        · exact Nat.le_refl _
theorem shr_dp : ∀ f : Fm, (shr f).dp ≤ f.dp
  | .tt => Nat.le_refl _
  | .ff => Nat.le_refl _
  | .cmp _ _ _ => Nat.le_refl _
  | .un o f => by
    have h1 := sh1_dp o (shr f)
    have h2 := shr_dp f
    show (sh1 o (shr f)).dp ≤ f.dp + 1
    omega
  | .bi o f g => by
    have h1 := sh2_dp o (shr f) (shr g)
    have h2 := shr_dp f
    have h3 := shr_dp g
    show (sh2 o (shr f) (shr g)).dp ≤ max f.dp g.dp + 1
    omega
theorem moved_dp (r : Str → Int) : ∀ f : Fm, (moved r f).dp ≤ 2 * f.dp
  | .tt => by show 1 ≤ 2 * 1; decide
  | .ff => by show 1 ≤ 2 * 1; decide
  | .cmp c t u => by
    show (cst _).dp ≤ 2
    cases c.ap (t.val r) (u.val r) <;> decide
  | .un o f => by
    have h := moved_dp r f
    have h1 := dp_pos f
    cases o <;> simp only [moved, Fm.dp] <;> omega
  | .bi o f g => by
    have h := moved_dp r f
    have h1 := dp_pos f
    have h' := moved_dp r g
    have h2 := dp_pos g
    cases o <;> simp only [moved, Fm.dp] <;> omega
/-- every comparison of what comes out is one of the given -/
theorem opp_cmps (f : Fm) : (opp f).cmps = f.cmps := by cases f <;> rfl
theorem sh1_cmps (o : Un) (f : Fm) : (sh1 o f).cmps = f.cmps := by
  unfold sh1
  split
  · exact opp_cmps f
  · split <;> rfl
theorem sh2_cmps (o : Bi) (f g : Fm) : ∀ x ∈ (sh2 o f g).cmps, x ∈ f.cmps ++ g.cmps := by
  intro x hx
  unfold sh2 at hx
  rw [List.mem_append]
  split at hx
  · cases o <;> simp only [wtf, sh1_cmps, Fm.cmps, List.not_mem_nil] at hx <;> exact .inr hx
  · split at hx
    · cases o <;> simp only [wff, sh1_cmps, opp_cmps, Fm.cmps, List.not_mem_nil] at hx <;> exact .inr hx
    · split at hx
      · cases o <;> simp only [wts, Fm.cmps, List.not_mem_nil] at hx <;> exact .inl hx
      · split at hx
        · cases o <;> simp only [wfs, Fm.cmps, List.not_mem_nil] at hx <;> exact .inl hx
        · exact List.mem_append.mp hx
theorem shr_cmps : ∀ (f x : Fm), x ∈ (shr f).cmps → x ∈ f.cmps
  | .tt, _, h => h
  | .ff, _, h => h
  | .cmp _ _ _, _, h => h
  | .un o f, x, h => by
    have h' : x ∈ (sh1 o (shr f)).cmps := h
    rw [sh1_cmps] at h'
    exact shr_cmps f x h'
  | .bi o f g, x, h => by
    have h' := List.mem_append.mp (sh2_cmps o (shr f) (shr g) x h)
    exact List.mem_append.mpr (h'.imp (shr_cmps f x) (shr_cmps g x))
theorem moved_cmps (r : Str → Int) : ∀ (f x : Fm), x ∈ (moved r f).cmps → x ∈ f.cmps
  | .tt, _, h => h
  | .ff, _, h => h
  | .cmp c t u, x, h => by
    have h' : x ∈ (cst (c.ap (t.val r) (u.val r))).cmps := h
    cases e : c.ap (t.val r) (u.val r) <;> rw [e] at h' <;> exact absurd h' (by simp [cst, Fm.cmps])
  | .un o f, x, h => by
    have ih := moved_cmps r f x
    cases o <;> simp only [moved, Fm.cmps, List.mem_append] at h ⊢ <;> first | exact ih h | exact h | (rcases h with h | h; exact ih h; exact h)
  | .bi o f g, x, h => by
    have ih := moved_cmps r f x
    have ih' := moved_cmps r g x
    cases o <;> simp only [moved, Fm.cmps, List.mem_append] at h ⊢
    all_goals
      first
        | exact h.imp ih ih'
        | (rcases h with h | h | h | h <;> first | exact .inl h | exact .inr h | exact .inl (ih h) | exact .inr (ih' h))

/-! ### another lasso of the same run -/
section
variable {n b n' b' : Nat} {ρ ρ' : Nat → Str → Int} {h : Nat → Nat}
theorem dec_way (hb : b < n) (hb' : b' < n') (hs : ∀ p, p < n' → h (nx n' b' p) = nx n b (h p)) (hl : ∀ p, p < n' → h p < n) {P P' Q Q' : Nat → Bool} {e : Bool} (hP : ∀ p, p < n' → P' p = P (h p)) (hQ : ∀ p, p < n' → Q' p = Q (h p)) {p : Nat} (hp : p < n') :
    dec (nx n' b') P' Q' e n' p = dec (nx n b) P Q e n (h p) := by
  have hD : ∀ p, p < n' → nx n' b' p < n' := fun p _ => nx_lt hb'
  rw [dec_map (D := fun p => p < n') hD hs hP hQ n' p hp]
  refine dec_cov (fun j => ?_) (cov_n hb (hl p hp))
  obtain ⟨i, hi, ei⟩ := cov_n hb' hp j
  refine ⟨i, hi, ?_⟩
  rw [← it_map (D := fun p => p < n') hD hs j p hp, ← it_map (D := fun p => p < n') hD hs i p hp, ei]
theorem tr_map (hb : b < n) (hb' : b' < n') (hs : ∀ p, p < n' → h (nx n' b' p) = nx n b (h p)) (hl : ∀ p, p < n' → h p < n) (hr : ∀ p, p < n' → ρ' p = ρ (h p)) : ∀ (f : Fm) (p : Nat), p < n' → tr n' b' ρ' f p = tr n b ρ f (h p)
  | .tt, _, _ => rfl
  | .ff, _, _ => rfl
  | .cmp c t u, p, hp => by
    show c.ap (t.val (ρ' p)) (u.val (ρ' p)) = c.ap (t.val (ρ (h p))) (u.val (ρ (h p)))
    rw [hr p hp]
  | .un .not f, p, hp => by
    show (!tr n' b' ρ' f p) = !tr n b ρ f (h p)
    rw [tr_map hb hb' hs hl hr f p hp]
  | .un .next f, p, hp => by
    show tr n' b' ρ' f (nx n' b' p) = tr n b ρ f (nx n b (h p))
    rw [tr_map hb hb' hs hl hr f _ (nx_lt hb'), hs p hp]
  | .un .ev f, p, hp => dec_way (P := fun _ => true) (P' := fun _ => true) hb hb' hs hl (fun _ _ => rfl) (tr_map hb hb' hs hl hr f) hp
  | .un .al f, p, hp => dec_way (Q := fun _ => false) (Q' := fun _ => false) hb hb' hs hl (tr_map hb hb' hs hl hr f) (fun _ _ => rfl) hp
  | .bi .and f g, p, hp => by
    show (tr n' b' ρ' f p && tr n' b' ρ' g p) = (tr n b ρ f (h p) && tr n b ρ g (h p))
    rw [tr_map hb hb' hs hl hr f p hp, tr_map hb hb' hs hl hr g p hp]
  | .bi .or f g, p, hp => by
    show (tr n' b' ρ' f p || tr n' b' ρ' g p) = (tr n b ρ f (h p) || tr n b ρ g (h p))
    rw [tr_map hb hb' hs hl hr f p hp, tr_map hb hb' hs hl hr g p hp]
  | .bi .imp f g, p, hp => by
    show (!tr n' b' ρ' f p || tr n' b' ρ' g p) = (!tr n b ρ f (h p) || tr n b ρ g (h p))
    rw [tr_map hb hb' hs hl hr f p hp, tr_map hb hb' hs hl hr g p hp]
  | .bi .same f g, p, hp => by
    show (tr n' b' ρ' f p == tr n' b' ρ' g p) = (tr n b ρ f (h p) == tr n b ρ g (h p))
    rw [tr_map hb hb' hs hl hr f p hp, tr_map hb hb' hs hl hr g p hp]
  | .bi .untl f g, p, hp => dec_way hb hb' hs hl (tr_map hb hb' hs hl hr f) (tr_map hb hb' hs hl hr g) hp
  | .bi .unl f g, p, hp => dec_way hb hb' hs hl (tr_map hb hb' hs hl hr f) (tr_map hb hb' hs hl hr g) hp
  | .bi .str f g, p, hp => dec_way hb hb' hs hl (tr_map hb hb' hs hl hr g) (fun q hq => by rw [tr_map hb hb' hs hl hr f q hq, tr_map hb hb' hs hl hr g q hq]) hp
  | .bi .rel f g, p, hp => congrArg (!·) (dec_way hb hb' hs hl (fun q hq => by rw [tr_map hb hb' hs hl hr f q hq]) (fun q hq => by rw [tr_map hb hb' hs hl hr g q hq]) hp)
/-- from place k + 1 on, k + 1 within the stem -/
theorem tr_cut (hb : b < n) {k : Nat} (hk : k + 1 ≤ b) (hr : ∀ p, p < n - (k + 1) → ρ' p = ρ (p + (k + 1))) (f : Fm) : tr (n - (k + 1)) (b - (k + 1)) ρ' f 0 = tr n b ρ f (nx n b k) := by
  have e := tr_map (h := fun p => p + (k + 1)) (ρ' := ρ') (ρ := ρ) hb (show b - (k + 1) < n - (k + 1) by omega) (fun p hp => by unfold nx; split <;> split <;> omega) (fun p hp => by omega) hr f 0 (by omega)
  rw [e]
  have e2 : nx n b k = 0 + (k + 1) := by unfold nx; split <;> omega
  rw [e2]
/-- from place k + 1 on, behind the stem: the loop turned by t -/
theorem tr_turn (hb : b < n) {k t : Nat} (hk : b < k + 1) (hkn : k < n) (ht : t = (k + 1 - b) % (n - b)) (hr : ∀ p, p < n - b → ρ' p = ρ (b + (t + p) % (n - b))) (f : Fm) : tr (n - b) 0 ρ' f 0 = tr n b ρ f (nx n b k) := by
  have hL : 0 < n - b := by omega
  have hm : ∀ x, b + x % (n - b) < n := fun x => by
    have := Nat.mod_lt x hL
    omega
  have e := tr_map (h := fun p => b + (t + p) % (n - b)) (ρ' := ρ') (ρ := ρ) hb (show 0 < n - b by omega) (fun p hp => ?_) (fun p hp => hm _) hr f 0 (by omega)
  · rw [e]
    congr 1
    show b + (t + 0) % (n - b) = nx n b k
    rw [ht, Nat.add_zero, Nat.mod_mod]
    unfold nx
    split
    · rw [Nat.mod_eq_of_lt (by omega)]
      omega
    · have e3 : k + 1 - b = n - b := by omega
      rw [e3, Nat.mod_self] <;> rfl
  · show b + (t + nx (n - b) 0 p) % (n - b) = nx n b (b + (t + p) % (n - b))
    have e4 : ∀ x, b + x % (n - b) = pos n b (x + b + (n - b)) := fun x => by
      unfold pos
      rw [if_neg (by omega)]
      have e5 : x + b + (n - b) - b = x + (n - b) := by omega
      rw [e5, Nat.add_mod_right]
    rw [e4, e4, nx_pos hb]
    unfold nx
    split
    · exact congrArg _ (by omega)
    · have e6 : p + 1 = n - b := by omega
      have e7 : t + p + b + (n - b) + 1 = (t + 0 + b + (n - b)) + (n - b) := by omega
      rw [e7]
      have e8 := pos_back (n := n) (b := b) (m := t + 0 + b + (n - b) + (n - b)) hb (by omega)
      rw [e8]
      exact congrArg _ (by omega)
end
end K27

/-! K27, the layer: data at values (Da), what evaluates to which data (E), promises over data (spR). -/
namespace K27
open PySem PySem.Spec PyProof.Rows L2 Evl

/-! ### data -/
def envK (es : List (Str × Int)) : List (Key × V) := es.map fun p => (Sum.inr p.1, V.int p.2)
def envD (es : List (Str × Int)) : PyData := .dict (es.map fun p => (.str p.1, .int p.2))
def scrD (ns : List Int) : PyData := .dict [(.none, .list (ns.map PyData.int))]
mutual
inductive Da (K : PySem.W.Frag) (H : Hp) : V → PyData → Prop
  | bl (b : Bool) : Da K H (.bl b) (.bool b)
  | int (i : Int) : Da K H (.int i) (.int i)
  | str (x : Str) : Da K H (.str x) (.str x)
  | lst {a : Addr} {xs : List V} {ds : List PyData} : H a = some (.lst xs) → DaAll K H xs ds → Da K H (.ref a) (.list ds)
  | tup {a : Addr} {xs : List V} {ds : List PyData} : SqT K H a xs → DaAll K H xs ds → Da K H (.ref a) (.tuple ds)
  | env {a : Addr} {es : List (Str × Int)} {kvs : List (PyData × PyData)} : H a = some (.dK (envK es)) → PyData.dict kvs = envD es → Da K H (.ref a) (.dict kvs)
  | scr {a : Addr} {ns : List Int} {kvs : List (PyData × PyData)} : SqL K H a (ns.map V.int) → PyData.dict kvs = scrD ns → Da K H (.ref a) (.dict kvs)
inductive DaAll (K : PySem.W.Frag) (H : Hp) : List V → List PyData → Prop
  | nil : DaAll K H [] []
  | cons {v : V} {vs : List V} {d : PyData} {ds : List PyData} : Da K H v d → DaAll K H vs ds → DaAll K H (v :: vs) (d :: ds)
end
section
variable {K : PySem.W.Frag} {H H' : Hp}
mutual
theorem Da.mono (e : Ex H H') : ∀ {v : V} {d : PyData}, Da K H v d → Da K H' v d
  | _, _, .bl b => .bl b
  | _, _, .int i => .int i
  | _, _, .str x => .str x
  | _, _, .lst h a => .lst (e _ _ h) (DaAll.mono e a)
  | _, _, .tup h a => .tup (ex_t e h) (DaAll.mono e a)
  | _, _, .env h q => .env (e _ _ h) q
  | _, _, .scr h q => .scr (ex_l e h) q
theorem DaAll.mono (e : Ex H H') : ∀ {vs : List V} {ds : List PyData}, DaAll K H vs ds → DaAll K H' vs ds
  | _, _, .nil => .nil
  | _, _, .cons h t => .cons (Da.mono e h) (DaAll.mono e t)
end
theorem Da.bl_inv {v : V} {b : Bool} (h : Da K H v (.bool b)) : v = .bl b := by cases h; rfl
theorem Da.int_inv {v : V} {i : Int} (h : Da K H v (.int i)) : v = .int i := by cases h; rfl
theorem Da.str_inv {v : V} {x : Str} (h : Da K H v (.str x)) : v = .str x := by cases h; rfl
theorem Da.tup_inv {v : V} {ds : List PyData} (h : Da K H v (.tuple ds)) : ∃ a xs, v = .ref a ∧ SqT K H a xs ∧ DaAll K H xs ds := by
  cases h with
  | tup h a => exact ⟨_, _, rfl, h, a⟩
theorem Da.lst_inv {v : V} {ds : List PyData} (h : Da K H v (.list ds)) : ∃ a xs, v = .ref a ∧ H a = some (.lst xs) ∧ DaAll K H xs ds := by
  cases h with
  | lst h a => exact ⟨_, _, rfl, h, a⟩
theorem map_pair_inj {es es' : List (Str × Int)} : ∀ (_ : es.map (fun p => ((PyData.str p.1, PyData.int p.2) : PyData × PyData)) = es'.map fun p => (PyData.str p.1, PyData.int p.2)), es = es' := by
  induction es generalizing es' with
  | nil =>
    intro h
    cases es' with
    | nil => rfl
    | cons a r => cases h
  | cons a r ih =>
    intro h
    cases es' with
    | nil => cases h
    | cons b s =>
      obtain ⟨a1, a2⟩ := a
      obtain ⟨b1, b2⟩ := b
      injection h with h1 h2
      injection h1 with h3 h4
      injection h3 with h3
      injection h4 with h4
      subst h3 h4
      rw [ih h2]
theorem map_int_inj {ns ms : List Int} : ns.map PyData.int = ms.map PyData.int → ns = ms := by
  induction ns generalizing ms with
  | nil =>
    intro h
    cases ms with
    | nil => rfl
    | cons a r => cases h
  | cons a r ih =>
    intro h
    cases ms with
    | nil => cases h
    | cons b s =>
      injection h with h1 h2
      injection h1 with h1
      subst h1
      rw [ih h2]
theorem Da.env_inv {v : V} {es : List (Str × Int)} (h : Da K H v (envD es)) : ∃ a, v = .ref a ∧ H a = some (.dK (envK es)) := by
  unfold envD at h
  cases h with
  | env h q =>
    injection q with q
    rw [map_pair_inj q]
    exact ⟨_, rfl, h⟩
  | scr h q =>
    unfold scrD at q
    injection q with q
    cases es with
    | nil => cases q
    | cons a r =>
      injection q with q1 q2
      injection q1 with q1 q3
      cases q1
theorem Da.scr_inv {v : V} {ns : List Int} (h : Da K H v (scrD ns)) : ∃ a, v = .ref a ∧ SqL K H a (ns.map V.int) := by
  unfold scrD at h
  cases h with
  | scr h q =>
    injection q with q
    injection q with q1 q2
    injection q1 with q1 q3
    injection q3 with q3
    rw [map_int_inj q3]
    exact ⟨_, rfl, h⟩
  | env h q =>
    rename_i es
    unfold envD at q
    injection q with q
    cases es with
    | nil => cases q
    | cons a r =>
      injection q with q1 q2
      injection q1 with q1 q3
      cases q1
theorem Da.mkEnv {a : Addr} {es : List (Str × Int)} (h : H a = some (.dK (envK es))) : Da K H (.ref a) (envD es) := .env h rfl
theorem Da.mkScr {a : Addr} {ns : List Int} (h : SqL K H a (ns.map V.int)) : Da K H (.ref a) (scrD ns) := .scr h rfl
theorem DaAll.length : ∀ {vs : List V} {ds : List PyData}, DaAll K H vs ds → vs.length = ds.length
  | _, _, .nil => rfl
  | _, _, .cons _ t => congrArg (· + 1) (DaAll.length t)
theorem DaAll.get : ∀ {vs : List V} {ds : List PyData} {i : Nat} {v : V}, DaAll K H vs ds → vs[i]? = some v → ∃ d, ds[i]? = some d ∧ Da K H v d
  | _, _, _, _, .nil, e => by simp at e
  | _, _, 0, _, .cons h _, e => by
    simp at e
    subst e
    exact ⟨_, rfl, h⟩
  | _, _, i + 1, _, .cons _ t, e => by
    obtain ⟨d, h1, h2⟩ := DaAll.get (i := i) t (by simpa using e)
    exact ⟨d, by simpa using h1, h2⟩
theorem DaAll.at : ∀ {vs : List V} {ds : List PyData} {i : Nat} {d : PyData}, DaAll K H vs ds → ds[i]? = some d → ∃ v, vs[i]? = some v ∧ Da K H v d
  | _, _, _, _, .nil, e => by simp at e
  | _, _, 0, _, .cons h _, e => by
    simp at e
    subst e
    exact ⟨_, rfl, h⟩
  | _, _, i + 1, _, .cons _ t, e => by
    obtain ⟨d, h1, h2⟩ := DaAll.at (i := i) t (by simpa using e)
    exact ⟨d, by simpa using h1, h2⟩
theorem DaAll.append : ∀ {vs ws : List V} {ds es : List PyData}, DaAll K H vs ds → DaAll K H ws es → DaAll K H (vs ++ ws) (ds ++ es)
  | _, _, _, _, .nil, s => s
  | _, _, _, _, .cons r t, s => .cons r (DaAll.append t s)
theorem DaAll.take : ∀ {vs : List V} {ds : List PyData} (n : Nat), DaAll K H vs ds → DaAll K H (vs.take n) (ds.take n)
  | _, _, 0, _ => .nil
  | _, _, _ + 1, .nil => .nil
  | _, _, n + 1, .cons r t => .cons r (DaAll.take n t)
theorem DaAll.drop : ∀ {vs : List V} {ds : List PyData} (n : Nat), DaAll K H vs ds → DaAll K H (vs.drop n) (ds.drop n)
  | _, _, 0, r => r
  | _, _, _ + 1, .nil => .nil
  | _, _, n + 1, .cons _ t => DaAll.drop n t
theorem DaAll.i1 {vs : List V} {a : PyData} (h : DaAll K H vs [a]) : ∃ v, vs = [v] ∧ Da K H v a := by
  cases h with
  | cons h t => cases t; exact ⟨_, rfl, h⟩
theorem DaAll.i2 {vs : List V} {a b : PyData} (h : DaAll K H vs [a, b]) : ∃ v w, vs = [v, w] ∧ Da K H v a ∧ Da K H w b := by
  cases h with
  | cons h t =>
    obtain ⟨w, rfl, h2⟩ := t.i1
    exact ⟨_, _, rfl, h, h2⟩
theorem DaAll.i3 {vs : List V} {a b c : PyData} (h : DaAll K H vs [a, b, c]) : ∃ v w x, vs = [v, w, x] ∧ Da K H v a ∧ Da K H w b ∧ Da K H x c := by
  cases h with
  | cons h t =>
    obtain ⟨w, x, rfl, h2⟩ := t.i2
    exact ⟨_, _, _, rfl, h, h2⟩
theorem DaAll.i4 {vs : List V} {a b c d : PyData} (h : DaAll K H vs [a, b, c, d]) : ∃ v w x y, vs = [v, w, x, y] ∧ Da K H v a ∧ Da K H w b ∧ Da K H x c ∧ Da K H y d := by
  cases h with
  | cons h t =>
    obtain ⟨w, x, y, rfl, h2⟩ := t.i3
    exact ⟨_, _, _, _, rfl, h, h2⟩
theorem DaAll.i5 {vs : List V} {a b c d e : PyData} (h : DaAll K H vs [a, b, c, d, e]) : ∃ v w x y z, vs = [v, w, x, y, z] ∧ Da K H v a ∧ Da K H w b ∧ Da K H x c ∧ Da K H y d ∧ Da K H z e := by
  cases h with
  | cons h t =>
    obtain ⟨w, x, y, z, rfl, h2⟩ := t.i4
    exact ⟨_, _, _, _, _, rfl, h, h2⟩
theorem DaAll.i6 {vs : List V} {a b c d e f : PyData} (h : DaAll K H vs [a, b, c, d, e, f]) : ∃ v w x y z u, vs = [v, w, x, y, z, u] ∧ Da K H v a ∧ Da K H w b ∧ Da K H x c ∧ Da K H y d ∧ Da K H z e ∧ Da K H u f := by
  cases h with
  | cons h t =>
    obtain ⟨w, x, y, z, u, rfl, h2⟩ := t.i5
    exact ⟨_, _, _, _, _, _, rfl, h, h2⟩
theorem DaAll.ints : ∀ {vs : List V} {ns : List Int}, DaAll K H vs (ns.map PyData.int) → vs = ns.map V.int
  | _, [], h => by cases h; rfl
  | _, n :: r, h => by
    cases h with
    | cons a b =>
      cases a
      rw [DaAll.ints b] <;> rfl
theorem DaAll.bools : ∀ {vs : List V} {bs : List Bool}, DaAll K H vs (bs.map PyData.bool) → vs = bs.map V.bl
  | _, [], h => by cases h; rfl
  | _, n :: r, h => by
    cases h with
    | cons a b =>
      cases a
      rw [DaAll.bools b] <;> rfl
theorem DaAll.strs : ∀ {vs : List V} {xs : List Str}, DaAll K H vs (xs.map PyData.str) → vs = xs.map V.str
  | _, [], h => by cases h; rfl
  | _, n :: r, h => by
    cases h with
    | cons a b =>
      cases a
      rw [DaAll.strs b] <;> rfl
theorem DaAll.ofInts : ∀ (ns : List Int), DaAll K H (ns.map V.int) (ns.map PyData.int)
  | [] => .nil
  | n :: r => .cons (.int n) (DaAll.ofInts r)
theorem DaAll.ofBools : ∀ (ns : List Bool), DaAll K H (ns.map V.bl) (ns.map PyData.bool)
  | [] => .nil
  | n :: r => .cons (.bl n) (DaAll.ofBools r)
theorem DaAll.ofStrs : ∀ (ns : List Str), DaAll K H (ns.map V.str) (ns.map PyData.str)
  | [] => .nil
  | n :: r => .cons (.str n) (DaAll.ofStrs r)

/-! ### data without lists stands whatever is done to lists -/
def isStrD : PyData → Bool
  | .str _ => true
  | _ => false
mutual
def noL : PyData → Bool
  | .none => true
  | .bool _ => true
  | .int _ => true
  | .str _ => true
  | .tuple ds => noLs ds
  | .list _ => false
  | .dict kvs => kvs.all fun p => isStrD p.1
def noLs : List PyData → Bool
  | [] => true
  | d :: ds => noL d && noLs ds
end
mutual
/-- data that == reads -/
def pl : PyData → Bool
  | .none => true
  | .bool _ => true
  | .int _ => true
  | .str _ => true
  | .tuple ds => pls ds
  | .list _ => false
  | .dict _ => false
def pls : List PyData → Bool
  | [] => true
  | d :: ds => pl d && pls ds
end
/-- all but lists stands -/
def NEx (H H' : Hp) : Prop := ∀ a o, H a = some o → (∀ xs, o ≠ .lst xs) → H' a = some o
theorem NEx.of (e : Ex H H') : NEx H H' := fun a o h _ => e a o h
theorem NEx.refl : NEx H H := fun a o h _ => h
theorem NEx.trans {H1 H2 H3 : Hp} (e : NEx H1 H2) (e' : NEx H2 H3) : NEx H1 H3 := fun a o h q => e' a o (e a o h q) q
theorem NEx.upd {l : Addr} {xs : List V} {o : HO} (h : H l = some (.lst xs)) : NEx H (upd H l o) := fun a u ha hu => by
  rw [upd_ne (ne_of ha h (hu xs))]
  exact ha
theorem nex_t {a : Addr} {xs : List V} (e : NEx H H') (h : SqT K H a xs) : SqT K H' a xs := by
  rcases h with (h | ⟨o, h⟩) | h
  · exact .inl (.inl (e _ _ h fun _ z => nomatch z))
  · exact .inl (.inr ⟨o, e _ _ h fun _ z => nomatch z⟩)
  · exact .inr h
theorem noL_scr {ns : List Int} {kvs : List (PyData × PyData)} (q : PyData.dict kvs = scrD ns) : noL (.dict kvs) = false := by
  unfold scrD at q
  injection q with q
  subst q
  rfl
mutual
theorem Da.tmono (e : NEx H H') : ∀ {v : V} {d : PyData}, Da K H v d → noL d = true → Da K H' v d
  | _, _, .bl b, _ => .bl b
  | _, _, .int i, _ => .int i
  | _, _, .str x, _ => .str x
  | _, _, .lst h a, n => nomatch n
  | _, _, .tup h a, n => .tup (nex_t e h) (DaAll.tmono e a n)
  | _, _, .env h q, n => .env (e _ _ h fun _ z => nomatch z) q
  | _, _, .scr h q, n => absurd ((noL_scr q).symm.trans n) (by decide)
theorem DaAll.tmono (e : NEx H H') : ∀ {vs : List V} {ds : List PyData}, DaAll K H vs ds → noLs ds = true → DaAll K H' vs ds
  | _, _, .nil, _ => .nil
  | _, _, .cons h t, n => by
    have n' : (_ && _) = true := n
    rw [Bool.and_eq_true] at n'
    exact .cons (Da.tmono e h n'.1) (DaAll.tmono e t n'.2)
end
mutual
theorem Da.dp : ∀ {v : V} {d : PyData}, Da K H v d → pl d = true → Dp K H v d
  | _, _, .bl b, _ => .bl b
  | _, _, .int i, _ => .int i
  | _, _, .str x, _ => .str x
  | _, _, .lst h a, n => nomatch n
  | _, _, .tup h a, n => .tup h (DaAll.dp a n)
  | _, _, .env h q, n => nomatch n
  | _, _, .scr h q, n => nomatch n
theorem DaAll.dp : ∀ {vs : List V} {ds : List PyData}, DaAll K H vs ds → pls ds = true → DpAll K H vs ds
  | _, _, .nil, _ => .nil
  | _, _, .cons h t, n => by
    have n' : (_ && _) = true := n
    rw [Bool.and_eq_true] at n'
    exact .cons (Da.dp h n'.1) (DaAll.dp t n'.2)
end
theorem noLs_append : ∀ (ds es : List PyData), noLs (ds ++ es) = (noLs ds && noLs es)
  | [], _ => rfl
  | d :: ds, es => by
    show (noL d && noLs (ds ++ es)) = (noL d && noLs ds && noLs es)
    rw [noLs_append ds es, Bool.and_assoc]
theorem noLs_map {α : Type} {f : α → PyData} (h : ∀ x, noL (f x) = true) : ∀ xs : List α, noLs (xs.map f) = true
  | [] => rfl
  | x :: r => by
    show (noL (f x) && noLs (r.map f)) = true
    rw [h x, noLs_map h r] <;> rfl
theorem noL_env (es : List (Str × Int)) : noL (envD es) = true := by
  show (List.all (es.map fun p => ((PyData.str p.1, PyData.int p.2) : PyData × PyData)) fun p => isStrD p.1) = true
  induction es with
  | nil => rfl
  | cons a r ih => exact ih
end

/-! ### what evaluates to which data -/
def E (K : PySem.W.Frag) (te : TE) (σ : L2.St) (H : Hp) (d : PyData) : Prop := ∀ H1, Ex H H1 → ∀ Q : VK, (∀ v H2, Ex H1 H2 → Da K H2 v d → Q v H2) → te σ H1 Q
def EA (K : PySem.W.Frag) (ta : TA) (σ : L2.St) (H : Hp) (ds : List PyData) : Prop := ∀ H1, Ex H H1 → ∀ Q : List V → Hp → Prop, (∀ vs H2, Ex H1 H2 → DaAll K H2 vs ds → Q vs H2) → ta σ H1 Q
section
variable {K : PySem.W.Frag} {σ : L2.St} {H H' : Hp} {ta tb te tx : TE} {t u : TT} {v : V} {d : PyData} {i j : Int} {x y : Str} {b : Bool}
theorem E.mono (e : Ex H H') (h : E K te σ H d) : E K te σ H' d := fun H1 a Q q => h H1 (e.trans a) Q q
theorem EA.mono {ta : TA} {ds : List PyData} (e : Ex H H') (h : EA K ta σ H ds) : EA K ta σ H' ds := fun H1 a Q q => h H1 (e.trans a) Q q
/-- a value that is known -/
theorem e_ev (h : Ev te σ H v) (hd : Da K H v d) : E K te σ H d := fun H1 e Q q => h H1 e Q fun H2 e2 => q v H2 e2 (hd.mono (e.trans e2))
theorem e_int (h : Ev te σ H (.int i)) : E K te σ H (.int i) := e_ev h (.int i)
theorem e_str (h : Ev te σ H (.str x)) : E K te σ H (.str x) := e_ev h (.str x)
theorem e_bl (h : Ev te σ H (.bl b)) : E K te σ H (.bool b) := e_ev h (.bl b)
theorem ev_int (h : E K te σ H (.int i)) : Ev te σ H (.int i) := fun H1 e Q q => h H1 e Q fun v H2 e2 r => by
  rw [r.int_inv]
  exact q H2 e2
theorem ev_str (h : E K te σ H (.str x)) : Ev te σ H (.str x) := fun H1 e Q q => h H1 e Q fun v H2 e2 r => by
  rw [r.str_inv]
  exact q H2 e2
theorem ev_bl (h : E K te σ H (.bool b)) : Ev te σ H (.bl b) := fun H1 e Q q => h H1 e Q fun v H2 e2 r => by
  rw [r.bl_inv]
  exact q H2 e2
theorem e_var {k : Nat} (h : σ[k]? = some (some v)) (hd : Da K H v d) : E K (tVar k) σ H d := e_ev (ev_var h) hd
theorem e_is {d' : PyData} (h : E K te σ H d) (e : d = d') : E K te σ H d' := e ▸ h
theorem ea_nil : EA K tNil σ H [] := fun H1 _ _ q => q [] H1 (Ex.refl H1) .nil
theorem ea_cons {tr : TA} {ds : List PyData} (h : E K te σ H d) (hr : EA K tr σ H ds) : EA K (tCons te tr) σ H (d :: ds) := fun H1 e _ q =>
  h H1 e _ fun v H2 e2 r => hr H2 (e.trans e2) _ fun vs H3 e3 rs => q _ H3 (e2.trans e3) (.cons (r.mono e3) rs)
/-- (word, *[..]) -/
theorem ea_star {tr : TA} {ds es : List PyData} (h : E K te σ H (.list ds)) (hr : EA K tr σ H es) : EA K (StX.tStar K te tr) σ H (ds ++ es) := fun H1 e _ q =>
  h H1 e _ fun v H2 e2 r => by
    obtain ⟨a, xs, rfl, ha, hx⟩ := r.lst_inv
    exact ⟨a, xs, rfl, Or.inr (sq_of ha), hr H2 (e.trans e2) _ fun vs H3 e3 rs => q _ H3 (e2.trans e3) ((hx.mono e3).append rs)⟩
theorem e_tup {ta : TA} {ds : List PyData} (h : EA K ta σ H ds) (hl : ds.length ≤ 100000) : E K (tTup ta) σ H (.tuple ds) := fun H1 e _ q =>
  h H1 e _ fun vs H2 e2 r => ⟨by rw [r.length]; exact sz_of hl, fun p hp => q _ _ (e2.trans (Ex.new hp)) (.tup (st_of upd_same) (r.mono (Ex.new hp)))⟩
theorem e_lst {ta : TA} {ds : List PyData} (h : EA K ta σ H ds) (hl : ds.length ≤ 100000) : E K (tLst ta) σ H (.list ds) := fun H1 e _ q =>
  h H1 e _ fun vs H2 e2 r => ⟨by rw [r.length]; exact sz_of hl, fun p hp => q _ _ (e2.trans (Ex.new hp)) (.lst upd_same (r.mono (Ex.new hp)))⟩
theorem at0 {d : PyData} {ds : List PyData} : atI (d :: ds) 0 = some d := atI_nat (j := 0) rfl
theorem at1 {a d : PyData} {ds : List PyData} : atI (a :: d :: ds) 1 = some d := atI_nat (j := 1) rfl
theorem at2 {a b d : PyData} {ds : List PyData} : atI (a :: b :: d :: ds) 2 = some d := atI_nat (j := 2) rfl
theorem atI_da {vs : List V} {ds : List PyData} (h : DaAll K H vs ds) {z : Int} (ha : atI ds z = some d) : ∃ v, atI vs z = some v ∧ Da K H v d := by
  unfold atI at ha ⊢
  rw [h.length]
  cases e : ixN ds.length z with
  | none =>
    rw [e] at ha
    cases ha
  | some k =>
    rw [e] at ha
    exact h.at ha
/-- t[i], xs[i] -/
theorem e_ixT {ds : List PyData} (h : E K ta σ H (.tuple ds)) (hi : Ev tb σ H (.int i)) (ha : atI ds i = some d) : E K (tOp (rIxT K) ta tb) σ H d := fun H1 e _ q =>
  h H1 e _ fun v H2 e2 r => hi H2 (e.trans e2) _ fun H3 e3 => by
    obtain ⟨a, xs, rfl, hs, hx⟩ := r.tup_inv
    obtain ⟨w, hw, hd⟩ := atI_da hx ha
    exact ⟨a, xs, i, w, rfl, rfl, ex_t e3 hs, hw, q w H3 (e2.trans e3) (hd.mono e3)⟩
theorem e_ixL {ds : List PyData} (h : E K ta σ H (.list ds)) (hi : Ev tb σ H (.int i)) (ha : atI ds i = some d) : E K (tOp (rIxL K) ta tb) σ H d := fun H1 e _ q =>
  h H1 e _ fun v H2 e2 r => hi H2 (e.trans e2) _ fun H3 e3 => by
    obtain ⟨a, xs, rfl, hs, hx⟩ := r.lst_inv
    obtain ⟨w, hw, hd⟩ := atI_da hx ha
    exact ⟨a, xs, i, w, rfl, rfl, sq_of (e3 _ _ hs), hw, q w H3 (e2.trans e3) (hd.mono e3)⟩
/-- slices -/
def cutD (ds : List PyData) (lo hi : Option Int) : List PyData := (ds.drop (HT.sIx ds.length 0 lo)).take (HT.sIx ds.length ds.length hi - HT.sIx ds.length 0 lo)
theorem da_cut {vs : List V} {ds : List PyData} (h : DaAll K H vs ds) (lo hi : Option Int) : DaAll K H (cutV vs lo hi) (cutD ds lo hi) := by
  unfold cutV cutD
  rw [h.length]
  exact (h.drop _).take _
theorem e_slL {tl th : TO} {ds : List PyData} {lo hi : Option Int} (h : E K te σ H (.list ds)) (h1 : EvO tl σ H lo) (h2 : EvO th σ H hi) : E K (tSl (rSlL K) te tl th) σ H (.list (cutD ds lo hi)) := fun H1 e _ q =>
  h H1 e _ fun v H2 e2 r => h1 H2 (e.trans e2) _ fun H3 e3 => h2 H3 ((e.trans e2).trans e3) _ fun H4 e4 => by
    obtain ⟨a, xs, rfl, hs, hx⟩ := r.lst_inv
    exact ⟨a, xs, rfl, sq_of ((e3.trans e4) _ _ hs), fun p hp => q _ _ (((e2.trans e3).trans e4).trans (Ex.new hp)) (.lst upd_same ((da_cut hx lo hi).mono ((e3.trans e4).trans (Ex.new hp))))⟩
theorem e_slT {tl th : TO} {ds : List PyData} {lo hi : Option Int} (h : E K te σ H (.tuple ds)) (h1 : EvO tl σ H lo) (h2 : EvO th σ H hi) (hw : ¬ (HT.sIx ds.length 0 lo = 0 ∧ HT.sIx ds.length ds.length hi = ds.length)) : E K (tSl (rSlA K) te tl th) σ H (.tuple (cutD ds lo hi)) := fun H1 e _ q =>
  h H1 e _ fun v H2 e2 r => h1 H2 (e.trans e2) _ fun H3 e3 => h2 H3 ((e.trans e2).trans e3) _ fun H4 e4 => by
    obtain ⟨a, xs, rfl, hs, hx⟩ := r.tup_inv
    refine ⟨a, xs, rfl, ex_t (e3.trans e4) hs, fun z => absurd (by rw [← hx.length]; exact z) hw, fun _ p hp => q _ _ (((e2.trans e3).trans e4).trans (Ex.new hp)) (.tup (st_of upd_same) ((da_cut hx lo hi).mono ((e3.trans e4).trans (Ex.new hp))))⟩
/-- len -/
theorem ev_lenD {ds : List PyData} (h : E K te σ H (.list ds) ∨ E K te σ H (.tuple ds)) : Ev (tCB (rLenS K) (tCons te tNil)) σ H (.int (ds.length : Int)) := fun H1 e Q q => by
  rcases h with h | h
  · refine h H1 e _ fun v H2 e2 r => ?_
    obtain ⟨a, xs, rfl, hs, hx⟩ := r.lst_inv
    refine ⟨a, xs, rfl, Or.inl (sq_of hs), ?_⟩
    rw [hx.length]
    exact q H2 e2
  · refine h H1 e _ fun v H2 e2 r => ?_
    obtain ⟨a, xs, rfl, hs, hx⟩ := r.tup_inv
    refine ⟨a, xs, rfl, Or.inr hs, ?_⟩
    rw [hx.length]
    exact q H2 e2
/-- list(xs) -/
theorem e_listD {ds : List PyData} (h : E K te σ H (.list ds)) : E K (tCB (rListS K) (tCons te tNil)) σ H (.list ds) := fun H1 e Q q =>
  h H1 e _ fun v H2 e2 r => by
    obtain ⟨a, xs, rfl, hs, hx⟩ := r.lst_inv
    exact ⟨a, xs, rfl, Or.inl (sq_of hs), fun l hl => q _ _ (e2.trans (Ex.new hl)) (.lst upd_same (hx.mono (Ex.new hl)))⟩
/-- xs + ys -/
theorem e_cat {ds es : List PyData} (h : E K ta σ H (.list ds)) (h' : E K tb σ H (.list es)) (hz : ds.length + es.length ≤ 100000) : E K (tOp rCat ta tb) σ H (.list (ds ++ es)) := fun H1 e _ q =>
  h H1 e _ fun v H2 e2 r => h' H2 (e.trans e2) _ fun w H3 e3 r' => by
    obtain ⟨a, xs, rfl, hs, hx⟩ := r.lst_inv
    obtain ⟨c, ys, rfl, hs', hy⟩ := r'.lst_inv
    exact ⟨a, c, xs, ys, rfl, rfl, e3 _ _ hs, hs', by rw [hx.length, hy.length]; exact sz_of hz, fun p hp => q _ _ ((e2.trans e3).trans (Ex.new hp)) (.lst upd_same (((hx.mono e3).append hy).mono (Ex.new hp)))⟩
/-- == of data -/
theorem ev_eqD {d e' : PyData} (h : E K ta σ H d) (h' : E K tb σ H e') (n1 : pl d = true) (n2 : pl e' = true) (s1 : SeqAt.shaped d = true) (s2 : SeqAt.shaped e' = true) : Ev (tOp (rEqD K) ta tb) σ H (.bl (PyData.eqv d e')) := fun H1 e _ q =>
  h H1 e _ fun v H2 e2 r => h' H2 (e.trans e2) _ fun w H3 e3 r' => ⟨d, e', (r.mono e3).dp n1, r'.dp n2, s1, s2, q H3 (e2.trans e3)⟩
/-- in, not in a written tuple of texts that stands in the module -/
theorem ev_inC {a : Addr} {ws : List Str} (h : Ev ta σ H (.str x)) (hc : ∀ H, Da K H (.ref a) (.tuple (ws.map PyData.str))) : Ev (tOp (rIn K false) ta (tC (.ref a))) σ H (.bl (inV (.str x) (ws.map V.str))) := by
  obtain ⟨a', xs, ea, hs, hx⟩ := (hc H).tup_inv
  cases ea
  rw [hx.strs] at hs
  exact ev_op h ev_c (rv_isT hs rfl (by rw [List.all_map]; exact List.all_eq_true.mpr fun _ _ => rfl))
theorem ev_niC {a : Addr} {ws : List Str} (h : Ev ta σ H (.str x)) (hc : ∀ H, Da K H (.ref a) (.tuple (ws.map PyData.str))) : Ev (tOp (rIn K true) ta (tC (.ref a))) σ H (.bl (!inV (.str x) (ws.map V.str))) := by
  obtain ⟨a', xs, ea, hs, hx⟩ := (hc H).tup_inv
  cases ea
  rw [hx.strs] at hs
  exact ev_op h ev_c (rv_niT hs rfl (by rw [List.all_map]; exact List.all_eq_true.mpr fun _ _ => rfl))
/-- the type's name -/
def tyN : PyData → String
  | .none => "NoneType"
  | .bool _ => "bool"
  | .int _ => "int"
  | .str _ => "str"
  | .list _ => "list"
  | .tuple _ => "tuple"
  | .dict _ => "dict"
theorem Da.ty (h : Da K H v d) (hd : ∀ kvs, d ≠ .dict kvs) : TyX K H v (.type (tyN d)) := by
  cases h with
  | bl b => exact .base (.bl b)
  | int i => exact .base (.int i)
  | str x => exact .base (.str x)
  | lst h a => exact .base (.lst h)
  | tup h a =>
    rcases h with (h | ⟨o, h⟩) | ⟨o, its, n, h, c, _⟩
    · exact .base (.tup h)
    · exact .fTuple h
    · exact .kTuple h c
  | env h q => exact absurd rfl (hd _)
  | scr h q => exact absurd rfl (hd _)
theorem ev_isi {T : String} (h : E K te σ H d) (hd : ∀ kvs, d ≠ .dict kvs) (hk : kitB (tyN d) T = some b) : Ev (tCB (rIsi K) (tCons te (tCons (tC (.ty T)) tNil))) σ H (.bl b) := fun H1 e _ q =>
  h H1 e _ fun v H2 e2 r => ⟨v, .ty T, _, _, b, rfl, .ty T, r.ty hd, kit_ty hk, q H2 e2⟩
theorem e_if {b : Bool} (h : EvT t σ H b) (h1 : b = true → E K ta σ H d) (h2 : b = false → E K tb σ H d) : E K (tIf t ta tb) σ H d := fun H1 e Q q => h H1 e _ fun H2 e2 => by
  cases b with
  | true =>
    show ta σ H2 Q
    exact h1 rfl H2 (e.trans e2) Q fun v H3 e3 => q v H3 (e2.trans e3)
  | false =>
    show tb σ H2 Q
    exact h2 rfl H2 (e.trans e2) Q fun v H3 e3 => q v H3 (e2.trans e3)
/-- a name's value in the env -/
theorem e_env {es : List (Str × Int)} (h : E K ta σ H (envD es)) (hi : Ev tb σ H (.str x)) (hv : es.lookup x = some i) : Ev (tDGet ta tb) σ H (.int i) := fun H1 e _ q =>
  h H1 e _ fun v H2 e2 r => hi H2 (e.trans e2) _ fun H3 e3 => by
    obtain ⟨a, rfl, ha⟩ := r.env_inv
    refine ⟨a, .int i, rfl, ?_, q H3 (e2.trans e3)⟩
    have g := DGet.k (k := (Sum.inr x : Key)) (e3 _ _ ha)
    have ev : valV (envK es) (Sum.inr x : Key) = some (.int i) := by
      clear g ha h r q
      induction es with
      | nil => cases hv
      | cons p r ih =>
        obtain ⟨p1, p2⟩ := p
        by_cases hp : x = p1
        · subst hp
          have e1 : List.lookup x ((x, p2) :: r) = some p2 := by simp [List.lookup]
          rw [e1] at hv
          cases hv
          exact valV_pos rfl
        · have e1 : List.lookup x ((p1, p2) :: r) = List.lookup x r := by
            simp only [List.lookup]
            rw [show (x == p1) = false from beq_eq_false_iff_ne.mpr hp]
          rw [e1] at hv
          show valV (((Sum.inr p1 : Key), V.int p2) :: envK r) (Sum.inr x : Key) = some (.int i)
          rw [valV_neg (fun z => hp (Sum.inr.inj z).symm)]
          exact ih hv
    rw [ev] at g
    exact g
end

/-! ### a new list -/
def EL (K : PySem.W.Frag) (te : TE) (σ : L2.St) (H : Hp) (ds : List PyData) : Prop := ∀ H1, Ex H H1 → ∀ Q : VK, (∀ p xs H2, H1 p = none → Ex H1 H2 → H2 p = some (.lst xs) → DaAll K H2 xs ds → Q (.ref p) H2) → te σ H1 Q
section
variable {K : PySem.W.Frag} {σ : L2.St} {H H0 H' : Hp} {ta tb te tx : TE} {t u : TT} {v : V} {d : PyData} {ds es : List PyData} {i j : Int} {x y : Str} {b : Bool}
theorem EL.mono (e : Ex H H') (h : EL K te σ H ds) : EL K te σ H' ds := fun H1 a Q q => h H1 (e.trans a) Q q
theorem EL.e (h : EL K te σ H ds) : E K te σ H (.list ds) := fun H1 e Q q => h H1 e Q fun p xs H2 _ e2 h2 r => q _ H2 e2 (.lst h2 r)
theorem EL.is {es : List PyData} (h : EL K te σ H ds) (e : ds = es) : EL K te σ H es := e ▸ h
theorem l_lst {ta : TA} (h : EA K ta σ H ds) (hl : ds.length ≤ 100000) : EL K (tLst ta) σ H ds := fun H1 e _ q =>
  h H1 e _ fun vs H2 e2 r => ⟨by rw [r.length]; exact sz_of hl, fun p hp => q p vs _ (fresh_back e2 hp) (e2.trans (Ex.new hp)) upd_same (r.mono (Ex.new hp))⟩
theorem l_slL {tl th : TO} {lo hi : Option Int} (h : E K te σ H (.list ds)) (h1 : EvO tl σ H lo) (h2 : EvO th σ H hi) : EL K (tSl (rSlL K) te tl th) σ H (cutD ds lo hi) := fun H1 e _ q =>
  h H1 e _ fun v H2 e2 r => h1 H2 (e.trans e2) _ fun H3 e3 => h2 H3 ((e.trans e2).trans e3) _ fun H4 e4 => by
    obtain ⟨a, xs, rfl, hs, hx⟩ := r.lst_inv
    exact ⟨a, xs, rfl, sq_of ((e3.trans e4) _ _ hs), fun p hp => q p _ _ (fresh_back ((e2.trans e3).trans e4) hp) (((e2.trans e3).trans e4).trans (Ex.new hp)) upd_same ((da_cut hx lo hi).mono ((e3.trans e4).trans (Ex.new hp)))⟩
theorem l_list (h : E K te σ H (.list ds)) : EL K (tCB (rListS K) (tCons te tNil)) σ H ds := fun H1 e Q q =>
  h H1 e _ fun v H2 e2 r => by
    obtain ⟨a, xs, rfl, hs, hx⟩ := r.lst_inv
    exact ⟨a, xs, rfl, Or.inl (sq_of hs), fun l hl => q l _ _ (fresh_back e2 hl) (e2.trans (Ex.new hl)) upd_same (hx.mono (Ex.new hl))⟩
theorem l_cat (h : E K ta σ H (.list ds)) (h' : E K tb σ H (.list es)) (hz : ds.length + es.length ≤ 100000) : EL K (tOp rCat ta tb) σ H (ds ++ es) := fun H1 e _ q =>
  h H1 e _ fun v H2 e2 r => h' H2 (e.trans e2) _ fun w H3 e3 r' => by
    obtain ⟨a, xs, rfl, hs, hx⟩ := r.lst_inv
    obtain ⟨c, ys, rfl, hs', hy⟩ := r'.lst_inv
    exact ⟨a, c, xs, ys, rfl, rfl, e3 _ _ hs, hs', by rw [hx.length, hy.length]; exact sz_of hz, fun p hp => q p _ _ (fresh_back (e2.trans e3) hp) ((e2.trans e3).trans (Ex.new hp)) upd_same (((hx.mono e3).append hy).mono (Ex.new hp))⟩

/-! ### comprehensions: which turns give, and what -/
def giv (n : Nat) (f : Nat → Bool) (F : Nat → PyData) : List PyData := ((List.range n).filter f).map F
theorem giv_yes {n : Nat} {f : Nat → Bool} {F : Nat → PyData} (h : f n = true) : giv (n + 1) f F = giv n f F ++ [F n] := by
  unfold giv
  rw [List.range_succ, List.filter_append, List.map_append, List.filter_cons, if_pos h] <;> rfl
theorem giv_no {n : Nat} {f : Nat → Bool} {F : Nat → PyData} (h : f n = false) : giv (n + 1) f F = giv n f F := by
  unfold giv
  rw [List.range_succ, List.filter_append, List.map_append, List.filter_cons, if_neg (by rw [h]; decide)]
  show _ ++ [] = _
  rw [List.append_nil]
theorem giv_all (n : Nat) (F : Nat → PyData) : giv n (fun _ => true) F = (List.range n).map F := by
  unfold giv
  rw [List.filter_eq_self.mpr fun _ _ => rfl]
theorem giv_len (n : Nat) (f : Nat → Bool) (F : Nat → PyData) : (giv n f F).length ≤ n := by
  unfold giv
  rw [List.length_map]
  have h := List.length_filter_le f (List.range n)
  rw [List.length_range] at h
  exact h
theorem giv_noL {F : Nat → PyData} (hF : ∀ i, noL (F i) = true) (n : Nat) (f : Nat → Bool) : noLs (giv n f F) = true := noLs_map hF _
def CwD (K : PySem.W.Frag) (H : Hp) (f : Nat → Bool) (F : Nat → PyData) (Dl : Addr) (i : Nat) (H' : Hp) : Prop := H Dl = none ∧ Ex H H' ∧ ∃ xs, H' Dl = some (.lst xs) ∧ DaAll K H' xs (giv i f F)
theorem CwD.nil {f : Nat → Bool} {F : Nat → PyData} {Dl : Addr} (h : H Dl = none) : CwD K H f F Dl 0 (upd H Dl (.lst [])) := ⟨h, Ex.new h, [], upd_same, .nil⟩
theorem cwd_turn {f : Nat → Bool} {F : Nat → PyData} {Dl : Addr} {i : Nat} {σ2 : L2.St} (p : CwD K H f F Dl i H') (hi : i < 50000) (hF : ∀ i, noL (F i) = true) (ht : EvT t σ2 H' (f i)) (he : f i = true → E K te σ2 H' (F i)) :
    t σ2 H' fun b H3 => if b = true then te σ2 H3 fun y H4 => ∃ acc, H4 Dl = some (.lst acc) ∧ acc.length < sizeLine ∧ CwD K H f F Dl (i + 1) (upd H4 Dl (.lst (acc ++ [y]))) else CwD K H f F Dl (i + 1) H3 := by
  obtain ⟨p1, p2, xs, p3, p4⟩ := p
  refine ht H' (Ex.refl H') _ fun H3 e3 => ?_
  cases hf : f i with
  | true =>
    show te σ2 H3 fun y H4 => ∃ acc, H4 Dl = some (.lst acc) ∧ acc.length < sizeLine ∧ CwD K H f F Dl (i + 1) (upd H4 Dl (.lst (acc ++ [y])))
    refine he hf H3 e3 _ fun y H4 e4 r => ⟨xs, e4 Dl _ (e3 Dl _ p3), ?_, p1, Ex.mut ((p2.trans e3).trans e4) p1, xs ++ [y], upd_same, ?_⟩
    · have h1 := giv_len i f F
      have h2 := p4.length
      exact sz_lt (by omega)
    · rw [giv_yes hf]
      have m : NEx H4 (upd H4 Dl (.lst (xs ++ [y]))) := NEx.upd (e4 Dl _ (e3 Dl _ p3))
      exact ((p4.mono (e3.trans e4)).tmono m (giv_noL hF i f)).append (.cons (r.tmono m (hF i)) .nil)
  | false =>
    show CwD K H f F Dl (i + 1) H3
    refine ⟨p1, p2.trans e3, xs, e3 Dl _ p3, ?_⟩
    rw [giv_no hf]
    exact p4.mono e3
/-- over a range -/
theorem l_lcR {ta : TA} {k : Nat} {vs : List Nat} {n : Int} (f : Nat → Bool) (F : Nat → PyData) (h : EvA ta σ H [.int n]) (hn : n ≤ 40000) (hF : ∀ i, noL (F i) = true) (hw : ∀ x, wipe ((wipe σ vs).set k (some x)) vs = wipe σ vs)
    (ht : ∀ (i : Nat) H1, Ex H H1 → (i : Int) < n → EvT t ((wipe σ vs).set k (some (.int (i : Int)))) H1 (f i)) (he : ∀ (i : Nat) H1, Ex H H1 → (i : Int) < n → f i = true → E K te ((wipe σ vs).set k (some (.int (i : Int)))) H1 (F i)) (hn0 : -40000 ≤ n := by omega) :
    EL K (tLc (iRng1 ta) (gName k) t te vs) σ H (giv n.toNat f F) := fun H0 e Q q => h H0 e _ fun H1 e1 => ⟨n, rfl, by omega, by omega, fun Dl hD =>
  lc_range (lo := 0) (n := n.toNat) (CwD K H1 f F Dl) (CwD.nil hD) (fun i H' hi p => by
    have e0 : (0 : Int) + (i : Int) = (i : Int) := Int.zero_add _
    show wipe ((wipe σ vs).set k (some (.int ((0 : Int) + (i : Int))))) vs = wipe σ vs ∧ t ((wipe σ vs).set k (some (.int ((0 : Int) + (i : Int))))) H' fun b H3 => if b = true then te ((wipe σ vs).set k (some (.int ((0 : Int) + (i : Int))))) H3 fun y H4 => ∃ acc, H4 Dl = some (.lst acc) ∧ acc.length < sizeLine ∧ CwD K H1 f F Dl (i + 1) (upd H4 Dl (.lst (acc ++ [y]))) else CwD K H1 f F Dl (i + 1) H3
    rw [e0]
    exact ⟨hw _, cwd_turn p (by omega) hF (ht i H' ((e.trans e1).trans p.2.1) (by omega)) (fun hf => he i H' ((e.trans e1).trans p.2.1) (by omega) hf)⟩) (fun H' p => by
      obtain ⟨p1, p2, xs, p3, p4⟩ := p
      exact q Dl xs H' (fresh_back e1 p1) (e1.trans p2) p3 p4)⟩
/-- over a list -/
theorem l_lcL {tl : TE} {k : Nat} {vs : List Nat} (f : Nat → Bool) (F : Nat → PyData) (h : E K tl σ H (.list ds)) (hz : ds.length ≤ 40000) (hF : ∀ i, noL (F i) = true) (hw : ∀ x, wipe ((wipe σ vs).set k (some x)) vs = wipe σ vs)
    (ht : ∀ (i : Nat) (v : V) (d : PyData) H1, Ex H H1 → ds[i]? = some d → Da K H1 v d → EvT t ((wipe σ vs).set k (some v)) H1 (f i)) (he : ∀ (i : Nat) (v : V) (d : PyData) H1, Ex H H1 → ds[i]? = some d → Da K H1 v d → f i = true → E K te ((wipe σ vs).set k (some v)) H1 (F i)) :
    EL K (tLc (iList K tl) (gName k) t te vs) σ H (giv ds.length f F) := fun H0 e Q q => h H0 e _ fun v H1 e1 r => by
  obtain ⟨a, xs, rfl, hs, hx⟩ := r.lst_inv
  have hl := hx.length
  rw [← hl] at q
  refine ⟨a, rfl, ⟨xs, sq_of hs⟩, fun Dl hD => lc_list (xs := xs) (CwD K H1 f F Dl) (CwD.nil hD) (fun i H' _ p => sq_of (p.2.1 _ _ hs)) (fun i x H' hi p => ?_) (fun H' p => ?_)⟩
  · obtain ⟨d, hd, rd⟩ := hx.get hi
    have hil := (List.getElem?_eq_some_iff.mp hi).1
    exact ⟨hw x, cwd_turn p (by omega) hF (ht i x d H' ((e.trans e1).trans p.2.1) hd (rd.mono p.2.1)) (fun hf => he i x d H' ((e.trans e1).trans p.2.1) hd (rd.mono p.2.1) hf)⟩
  · obtain ⟨p1, p2, ys, p3, p4⟩ := p
    exact q Dl ys H' (fresh_back e1 p1) (e1.trans p2) p3 p4
/-- over a tuple -/
theorem l_lcT {tl : TE} {k : Nat} {vs : List Nat} (f : Nat → Bool) (F : Nat → PyData) (h : E K tl σ H (.tuple ds)) (hz : ds.length ≤ 40000) (hF : ∀ i, noL (F i) = true) (hw : ∀ x, wipe ((wipe σ vs).set k (some x)) vs = wipe σ vs)
    (ht : ∀ (i : Nat) (v : V) (d : PyData) H1, Ex H H1 → ds[i]? = some d → Da K H1 v d → EvT t ((wipe σ vs).set k (some v)) H1 (f i)) (he : ∀ (i : Nat) (v : V) (d : PyData) H1, Ex H H1 → ds[i]? = some d → Da K H1 v d → f i = true → E K te ((wipe σ vs).set k (some v)) H1 (F i)) :
    EL K (tLc (iTup K tl) (gName k) t te vs) σ H (giv ds.length f F) := fun H0 e Q q => h H0 e _ fun v H1 e1 r => by
  obtain ⟨a, xs, rfl, hs, hx⟩ := r.tup_inv
  have hl := hx.length
  rw [← hl] at q
  refine ⟨a, rfl, ⟨xs, hs⟩, fun Dl hD => lc_tup (xs := xs) (CwD K H1 f F Dl) (CwD.nil hD) (fun i H' _ p => ex_t p.2.1 hs) (fun i x H' hi p => ?_) (fun H' p => ?_)⟩
  · obtain ⟨d, hd, rd⟩ := hx.get hi
    have hil := (List.getElem?_eq_some_iff.mp hi).1
    exact ⟨hw x, cwd_turn p (by omega) hF (ht i x d H' ((e.trans e1).trans p.2.1) hd (rd.mono p.2.1)) (fun hf => he i x d H' ((e.trans e1).trans p.2.1) hd (rd.mono p.2.1) hf)⟩
  · obtain ⟨p1, p2, ys, p3, p4⟩ := p
    exact q Dl ys H' (fresh_back e1 p1) (e1.trans p2) p3 p4
theorem evt_yes : EvT tYes σ H true := fun H1 _ _ q => q H1 (Ex.refl H1)

/-! ### statements, from a base H0 on -/
variable {D : Ends} {tu tw tz : TS}
theorem b_ret (e0 : Ex H0 H) (h : E K te σ H0 d) (k : ∀ v H1, Ex H0 H1 → Da K H1 v d → D.rt v H1) : tRet te D σ H := h H e0 _ fun v H1 e1 r => k v H1 (e0.trans e1) r
theorem b_retL (e0 : Ex H0 H) (h : EL K te σ H0 ds) (k : ∀ p xs H1, H p = none → Ex H0 H1 → H1 p = some (.lst xs) → DaAll K H1 xs ds → D.rt (.ref p) H1) : tRet te D σ H := h H e0 _ fun p xs H1 hp e1 h1 r => k p xs H1 hp (e0.trans e1) h1 r
theorem b_asg {k : Nat} (e0 : Ex H0 H) (h : Ev te σ H0 v) (q : ∀ H1, Ex H0 H1 → tz D (σ.set k (some v)) H1) : tSeq (tAsg te (gName k)) tz D σ H := h H e0 _ fun H1 e1 => q H1 (e0.trans e1)
theorem b_asgD {k : Nat} (e0 : Ex H0 H) (h : E K te σ H0 d) (q : ∀ v H1, Ex H0 H1 → Da K H1 v d → tz D (σ.set k (some v)) H1) : tSeq (tAsg te (gName k)) tz D σ H := h H e0 _ fun v H1 e1 r => q v H1 (e0.trans e1) r
theorem b_asgL {k : Nat} (e0 : Ex H0 H) (h : EL K te σ H0 ds) (q : ∀ p xs H1, H p = none → Ex H0 H1 → H1 p = some (.lst xs) → DaAll K H1 xs ds → tz D (σ.set k (some (.ref p))) H1) : tSeq (tAsg te (gName k)) tz D σ H :=
  h H e0 _ fun p xs H1 hp e1 h1 r => q p xs H1 hp (e0.trans e1) h1 r
theorem b_yes {b : Bool} (e0 : Ex H0 H) (h : EvT t σ H0 b) (hb : b = true) (q : ∀ H1, Ex H0 H1 → tu { D with nx := tz D } σ H1) : tSeq (tIfS t tu tw) tz D σ H := h H e0 _ fun H1 e1 => by
  subst hb
  exact q H1 (e0.trans e1)
theorem b_no {b : Bool} (e0 : Ex H0 H) (h : EvT t σ H0 b) (hb : b = false) (q : ∀ H1, Ex H0 H1 → tw { D with nx := tz D } σ H1) : tSeq (tIfS t tu tw) tz D σ H := h H e0 _ fun H1 e1 => by
  subst hb
  exact q H1 (e0.trans e1)
theorem b_yes1 {b : Bool} (e0 : Ex H0 H) (h : EvT t σ H0 b) (hb : b = true) (q : ∀ H1, Ex H0 H1 → tu D σ H1) : tIfS t tu tw D σ H := h H e0 _ fun H1 e1 => by
  subst hb
  exact q H1 (e0.trans e1)
theorem b_no1 {b : Bool} (e0 : Ex H0 H) (h : EvT t σ H0 b) (hb : b = false) (q : ∀ H1, Ex H0 H1 → tw D σ H1) : tIfS t tu tw D σ H := h H e0 _ fun H1 e1 => by
  subst hb
  exact q H1 (e0.trans e1)
/-- an if without else -/
theorem b_when {b : Bool} (e0 : Ex H0 H) (h : EvT t σ H0 b) (q1 : b = true → ∀ H1, Ex H0 H1 → tu { D with nx := tz D } σ H1) (q2 : b = false → ∀ H1, Ex H0 H1 → tz D σ H1) : tSeq (tIfS t tu tNext) tz D σ H := h H e0 _ fun H1 e1 => by
  cases b with
  | true => exact q1 rfl H1 (e0.trans e1)
  | false => exact q2 rfl H1 (e0.trans e1)
theorem b_when1 {b : Bool} (e0 : Ex H0 H) (h : EvT t σ H0 b) (q1 : b = true → ∀ H1, Ex H0 H1 → tu D σ H1) (q2 : b = false → ∀ H1, Ex H0 H1 → D.nx σ H1) : tIfS t tu tNext D σ H := h H e0 _ fun H1 e1 => by
  cases b with
  | true => exact q1 rfl H1 (e0.trans e1)
  | false => exact q2 rfl H1 (e0.trans e1)
/-- .. whose way is known -/
theorem b_skip {b : Bool} (e0 : Ex H0 H) (h : EvT t σ H0 b) (hb : b = false) (q : ∀ H1, Ex H0 H1 → tz D σ H1) : tSeq (tIfS t tu tNext) tz D σ H := h H e0 _ fun H1 e1 => by
  subst hb
  exact q H1 (e0.trans e1)
/-- both ways -/
theorem b_if {b : Bool} (e0 : Ex H0 H) (h : EvT t σ H0 b) (q1 : b = true → ∀ H1, Ex H0 H1 → tu { D with nx := tz D } σ H1) (q2 : b = false → ∀ H1, Ex H0 H1 → tw { D with nx := tz D } σ H1) : tSeq (tIfS t tu tw) tz D σ H := h H e0 _ fun H1 e1 => by
  cases b with
  | true => exact q1 rfl H1 (e0.trans e1)
  | false => exact q2 rfl H1 (e0.trans e1)
theorem b_if1 {b : Bool} (e0 : Ex H0 H) (h : EvT t σ H0 b) (q1 : b = true → ∀ H1, Ex H0 H1 → tu D σ H1) (q2 : b = false → ∀ H1, Ex H0 H1 → tw D σ H1) : tIfS t tu tw D σ H := h H e0 _ fun H1 e1 => by
  cases b with
  | true => exact q1 rfl H1 (e0.trans e1)
  | false => exact q2 rfl H1 (e0.trans e1)
end

/-! ### loops -/
section
variable {K : PySem.W.Frag} {σ : L2.St} {H H0 : Hp} {tl : TE} {ds : List PyData} {D : Ends} {tu tz : TS} {g : TG}
/-- over a new list -/
theorem b_forL1 (e0 : Ex H0 H) (h : EL K tl σ H0 ds) (Pv : Addr → List V → Nat → L2.St → Hp → Prop) (h0 : ∀ p xs H1, H p = none → Ex H H1 → H1 p = some (.lst xs) → DaAll K H1 xs ds → Pv p xs 0 σ H1)
    (hl : ∀ p xs i σ' H', Pv p xs i σ' H' → H' p = some (.lst xs))
    (hs : ∀ p xs i x d σ' H', xs.length = ds.length → xs[i]? = some x → ds[i]? = some d → Pv p xs i σ' H' → g x σ' H' fun σ2 H2 => tu { D with nx := Pv p xs (i + 1), ct := Pv p xs (i + 1), bk := D.nx } σ2 H2) (hd : ∀ p xs σ' H', Pv p xs ds.length σ' H' → D.nx σ' H') :
    tFor (iList K tl) g tu D σ H := h H e0 _ fun p xs H1 hp e1 h1 r => by
  have hlen := r.length
  refine ⟨p, rfl, ⟨xs, sq_of h1⟩, for_list (Pv p xs) (h0 p xs H1 hp e1 h1 r) (fun i σ' H' _ q => sq_of (hl p xs i σ' H' q)) (fun i x σ' H' hx q => ?_) (fun σ' H' q => hd p xs σ' H' (by rw [← hlen]; exact q))⟩
  obtain ⟨d, hd', _⟩ := r.get hx
  exact hs p xs i x d σ' H' hlen hx hd' q
theorem b_forL (e0 : Ex H0 H) (h : EL K tl σ H0 ds) (Pv : Addr → List V → Nat → L2.St → Hp → Prop) (h0 : ∀ p xs H1, H p = none → Ex H H1 → H1 p = some (.lst xs) → DaAll K H1 xs ds → Pv p xs 0 σ H1)
    (hl : ∀ p xs i σ' H', Pv p xs i σ' H' → H' p = some (.lst xs))
    (hs : ∀ p xs i x d σ' H', xs.length = ds.length → xs[i]? = some x → ds[i]? = some d → Pv p xs i σ' H' → g x σ' H' fun σ2 H2 => tu { D with nx := Pv p xs (i + 1), ct := Pv p xs (i + 1), bk := tz D } σ2 H2) (hd : ∀ p xs σ' H', Pv p xs ds.length σ' H' → tz D σ' H') :
    tSeq (tFor (iList K tl) g tu) tz D σ H := b_forL1 (D := { D with nx := tz D }) e0 h Pv h0 hl hs hd
/-- over a list or a tuple that the loop leaves as it is, the items' data told at the entry -/
theorem b_forE1 (e0 : Ex H0 H) (h : E K tl σ H0 (.list ds)) (Pv : Addr → List V → Nat → L2.St → Hp → Prop) (h0 : ∀ p xs H1, Ex H H1 → H1 p = some (.lst xs) → DaAll K H1 xs ds → Pv p xs 0 σ H1)
    (hl : ∀ p xs i σ' H', Pv p xs i σ' H' → H' p = some (.lst xs))
    (hs : ∀ p xs i x d σ' H', xs.length = ds.length → xs[i]? = some x → ds[i]? = some d → Pv p xs i σ' H' → g x σ' H' fun σ2 H2 => tu { D with nx := Pv p xs (i + 1), ct := Pv p xs (i + 1), bk := D.nx } σ2 H2) (hd : ∀ p xs σ' H', Pv p xs ds.length σ' H' → D.nx σ' H') :
    tFor (iList K tl) g tu D σ H := h H e0 _ fun v H1 e1 r => by
  obtain ⟨p, xs, rfl, h1, r⟩ := r.lst_inv
  have hlen := r.length
  refine ⟨p, rfl, ⟨xs, sq_of h1⟩, for_list (Pv p xs) (h0 p xs H1 e1 h1 r) (fun i σ' H' _ q => sq_of (hl p xs i σ' H' q)) (fun i x σ' H' hx q => ?_) (fun σ' H' q => hd p xs σ' H' (by rw [← hlen]; exact q))⟩
  obtain ⟨d, hd', _⟩ := r.get hx
  exact hs p xs i x d σ' H' hlen hx hd' q
theorem b_forE (e0 : Ex H0 H) (h : E K tl σ H0 (.list ds)) (Pv : Addr → List V → Nat → L2.St → Hp → Prop) (h0 : ∀ p xs H1, Ex H H1 → H1 p = some (.lst xs) → DaAll K H1 xs ds → Pv p xs 0 σ H1)
    (hl : ∀ p xs i σ' H', Pv p xs i σ' H' → H' p = some (.lst xs))
    (hs : ∀ p xs i x d σ' H', xs.length = ds.length → xs[i]? = some x → ds[i]? = some d → Pv p xs i σ' H' → g x σ' H' fun σ2 H2 => tu { D with nx := Pv p xs (i + 1), ct := Pv p xs (i + 1), bk := tz D } σ2 H2) (hd : ∀ p xs σ' H', Pv p xs ds.length σ' H' → tz D σ' H') :
    tSeq (tFor (iList K tl) g tu) tz D σ H := b_forE1 (D := { D with nx := tz D }) e0 h Pv h0 hl hs hd
theorem b_forT1 (e0 : Ex H0 H) (h : E K tl σ H0 (.tuple ds)) (Pv : Addr → List V → Nat → L2.St → Hp → Prop) (h0 : ∀ p xs H1, Ex H H1 → SqT K H1 p xs → DaAll K H1 xs ds → Pv p xs 0 σ H1)
    (hl : ∀ p xs i σ' H', Pv p xs i σ' H' → SqT K H' p xs)
    (hs : ∀ p xs i x d σ' H', xs.length = ds.length → xs[i]? = some x → ds[i]? = some d → Pv p xs i σ' H' → g x σ' H' fun σ2 H2 => tu { D with nx := Pv p xs (i + 1), ct := Pv p xs (i + 1), bk := D.nx } σ2 H2) (hd : ∀ p xs σ' H', Pv p xs ds.length σ' H' → D.nx σ' H') :
    tFor (iTup K tl) g tu D σ H := h H e0 _ fun v H1 e1 r => by
  obtain ⟨p, xs, rfl, h1, r⟩ := r.tup_inv
  have hlen := r.length
  refine ⟨p, rfl, ⟨xs, h1⟩, for_tup (Pv p xs) (h0 p xs H1 e1 h1 r) (fun i σ' H' _ q => hl p xs i σ' H' q) (fun i x σ' H' hx q => ?_) (fun σ' H' q => hd p xs σ' H' (by rw [← hlen]; exact q))⟩
  obtain ⟨d, hd', _⟩ := r.get hx
  exact hs p xs i x d σ' H' hlen hx hd' q
theorem b_forT (e0 : Ex H0 H) (h : E K tl σ H0 (.tuple ds)) (Pv : Addr → List V → Nat → L2.St → Hp → Prop) (h0 : ∀ p xs H1, Ex H H1 → SqT K H1 p xs → DaAll K H1 xs ds → Pv p xs 0 σ H1)
    (hl : ∀ p xs i σ' H', Pv p xs i σ' H' → SqT K H' p xs)
    (hs : ∀ p xs i x d σ' H', xs.length = ds.length → xs[i]? = some x → ds[i]? = some d → Pv p xs i σ' H' → g x σ' H' fun σ2 H2 => tu { D with nx := Pv p xs (i + 1), ct := Pv p xs (i + 1), bk := tz D } σ2 H2) (hd : ∀ p xs σ' H', Pv p xs ds.length σ' H' → tz D σ' H') :
    tSeq (tFor (iTup K tl) g tu) tz D σ H := b_forT1 (D := { D with nx := tz D }) e0 h Pv h0 hl hs hd
/-- xs.append(e) -/
theorem b_app {ta te : TE} {l : Addr} {xs : List V} {d : PyData} (hl : H l = some (.lst xs)) (ha : Ev ta σ H (.ref l)) (h : E K te σ H d) (hz : xs.length < 100000) (k : ∀ v H1, Ex H H1 → Da K H1 v d → tz D σ (upd H1 l (.lst (xs ++ [v])))) :
    tSeq (tDrop (tBM K "list" rAppend ta (tCons te tNil))) tz D σ H := ha H (Ex.refl H) _ fun H1 e1 =>
  ⟨Or.inl ⟨rfl, xs, sq_of (e1 l _ hl)⟩, h H1 e1 _ fun v H2 e2 r => ⟨l, xs, v, rfl, rfl, e2 l _ (e1 l _ hl), sz_lt hz, k v H2 (e1.trans e2) r⟩⟩
theorem b_app1 {ta te : TE} {l : Addr} {xs : List V} {d : PyData} (hl : H l = some (.lst xs)) (ha : Ev ta σ H (.ref l)) (h : E K te σ H d) (hz : xs.length < 100000) (k : ∀ v H1, Ex H H1 → Da K H1 v d → D.nx σ (upd H1 l (.lst (xs ++ [v])))) :
    tDrop (tBM K "list" rAppend ta (tCons te tNil)) D σ H := ha H (Ex.refl H) _ fun H1 e1 =>
  ⟨Or.inl ⟨rfl, xs, sq_of (e1 l _ hl)⟩, h H1 e1 _ fun v H2 e2 r => ⟨l, xs, v, rfl, rfl, e2 l _ (e1 l _ hl), sz_lt hz, k v H2 (e1.trans e2) r⟩⟩
/-- x = xs.pop() -/
theorem b_pop {ta : TE} {l : Addr} {xs : List V} {v : V} {k : Nat} (hl : H l = some (.lst (xs ++ [v]))) (ha : Ev ta σ H (.ref l)) (q : ∀ H1, Ex H H1 → tz D (σ.set k (some v)) (upd H1 l (.lst xs))) :
    tSeq (tAsg (tBM0 K "list" rPop ta) (gName k)) tz D σ H := ha H (Ex.refl H) _ fun H1 e1 =>
  ⟨Or.inl ⟨rfl, xs ++ [v], sq_of (e1 l _ hl)⟩, ⟨l, xs ++ [v], v, rfl, rfl, e1 l _ hl, by simp, by
    have z := q H1 e1
    rw [List.dropLast_concat]
    exact z⟩⟩
end

/-! ### named readings -/
section
variable {X : Cx}
theorem call_lenS : CallR X (.builtin "len") (rLenS X.K) := call_len_seq
theorem call_listS : CallR X (.type "list") (rListS X.K) := call_list_of
def rInt1 : List V → Hp → VK → Prop := fun xs H Q => (∃ i, xs = [.int i] ∧ Q (.int i) H) ∨ ∃ k, xs = [.bl k] ∧ Q (.int (if k then 1 else 0)) H
theorem call_intS : CallR X (.type "int") rInt1 := call_int1
def rMin2 : List V → Hp → VK → Prop := fun xs H Q => ∃ i j, xs = [.int i, .int j] ∧ Q (.int (if j < i then j else i)) H
theorem call_minS (hc : X.calm = true) : CallR X (.builtin "min") rMin2 := call_min2 hc
theorem call_maxS (hc : X.calm = true) : CallR X (.builtin "max") rMax2 := call_max2 hc
def rAddStr : R2 := fun x y H Q => ∃ i j, x = .str i ∧ y = .str j ∧ i.length + j.length ≤ sizeLine ∧ Q (.str (i ++ j)) H
theorem op_addStr : OpR X (binaryOp .Add) rAddStr := op_add_str
end
section
variable {K : PySem.W.Frag} {σ : L2.St} {H : Hp} {ta tb te : TE} {i j : Int} {x y : Str}
theorem ev_int1 (h : Ev te σ H (.int i)) : Ev (tCB rInt1 (tCons te tNil)) σ H (.int i) := fun H1 e Q q => h H1 e _ fun H2 e2 => Or.inl ⟨i, rfl, q H2 e2⟩
theorem ev_min2 (ha : Ev ta σ H (.int i)) (hb : Ev tb σ H (.int j)) : Ev (tCB rMin2 (tCons ta (tCons tb tNil))) σ H (.int (if j < i then j else i)) := fun H1 e Q q =>
  ha H1 e _ fun H2 e2 => hb H2 (e.trans e2) _ fun H3 e3 => ⟨i, j, rfl, q H3 (e2.trans e3)⟩
theorem ev_addS (ha : Ev ta σ H (.str x)) (hb : Ev tb σ H (.str y)) (hl : x.length + y.length ≤ 100000) : Ev (tOp rAddStr ta tb) σ H (.str (x ++ y)) := fun H1 e Q q =>
  ha H1 e _ fun H2 e2 => hb H2 (e.trans e2) _ fun H3 e3 => ⟨x, y, rfl, rfl, sz_of hl, q H3 (e2.trans e3)⟩
theorem ev_neg (ha : Ev ta σ H (.int i)) : Ev (tUn (rU fun i => .int (-i)) ta) σ H (.int (-i)) := ev_un ha ru_neg
end

/-! ### promises over data -/
abbrev Rl := List PyData → PyData → Prop
def spR (K : PySem.W.Frag) (R : Rl) : Sp := fun vs H Q _ => ∃ ds d, DaAll K H vs ds ∧ R ds d ∧ ∀ v H', Ex H H' → Da K H' v d → Q v H'
theorem e_call {K : PySem.W.Frag} {σ : L2.St} {H : Hp} {R : Rl} {E' : XK} {ta : TA} {ds : List PyData} {d : PyData} (h : EA K ta σ H ds) (hR : R ds d) : E K (tCall (spR K R) [] E' ta) σ H d := fun H1 e Q q =>
  h H1 e _ fun vs H2 e2 r => by
    show spR K R (vs ++ []) H2 Q E'
    rw [List.append_nil]
    exact ⟨ds, d, r, hR, fun v H3 e3 rd => q v H3 (e2.trans e3) rd⟩

def spN (K : PySem.W.Frag) (R : List PyData → List PyData → Prop) : Sp := fun vs H Q _ => ∃ ds es, DaAll K H vs ds ∧ R ds es ∧ ∀ p xs H', H p = none → Ex H H' → H' p = some (.lst xs) → DaAll K H' xs es → Q (.ref p) H'
theorem l_call {K : PySem.W.Frag} {σ : L2.St} {H : Hp} {R : List PyData → List PyData → Prop} {E' : XK} {ta : TA} {ds es : List PyData} (h : EA K ta σ H ds) (hR : R ds es) : EL K (tCall (spN K R) [] E' ta) σ H es := fun H1 e Q q =>
  h H1 e _ fun vs H2 e2 r => by
    show spN K R (vs ++ []) H2 Q E'
    rw [List.append_nil]
    exact ⟨ds, es, r, hR, fun p xs H3 hp e3 h3 rd => q p xs H3 (fresh_back e2 hp) (e2.trans e3) h3 rd⟩

/-- a def of the top -/
def Def (K : PySem.W.Frag) (mg : Str → Option Value) (x : String) (st : Stmt) (ps : List Str) : Prop := ∃ f fd, Fun K x x st f fd ∧ mg x = some (.ref f) ∧ Binds K fd ps []
/-- .. that keeps a promise -/
def FnAt (P : Program) (w : World) (K : PySem.W.Frag) (mg : Str → Option Value) (base : Heap) (k : Nat) (x : String) (ps : List Str) (sp : Sp) : Prop := ∃ f fd, PySem.W.keepIn K (.ref f) = true ∧ mg x = some (.ref f) ∧ Binds K fd ps [] ∧ FnOk P w K mg base CX0 k f fd ps sp
section
variable {P : Program} {w : World} {K : PySem.W.Frag} {mg : Str → Option Value} {base : Heap}
theorem FnAt.mono {j k : Nat} {x : String} {ps : List Str} {sp : Sp} (h : FnAt P w K mg base j x ps sp) (hk : j ≤ k) : FnAt P w K mg base k x ps sp := by
  obtain ⟨f, fd, h1, h2, h3, h4⟩ := h
  exact ⟨f, fd, h1, h2, h3, h4.mono hk⟩
theorem FnAt.imp {k : Nat} {x : String} {ps : List Str} {sp sp' : Sp} (h : FnAt P w K mg base k x ps sp) (hs : ∀ vs H Q E, sp' vs H Q E → sp vs H Q E) : FnAt P w K mg base k x ps sp' := by
  obtain ⟨f, fd, h1, h2, h3, h4⟩ := h
  exact ⟨f, fd, h1, h2, h3, h4.imp hs⟩
theorem spR_imp {R R' : Rl} (h : ∀ ds d, R' ds d → R ds d) : ∀ vs H Q E, spR K R' vs H Q E → spR K R vs H Q E := fun vs H Q E ⟨ds, d, h1, h2, h3⟩ => ⟨ds, d, h1, h _ _ h2, h3⟩
/-- THE RULE for a def over data: R fixes the arguments' number -/
theorem Def.ok {x : String} {st : Stmt} {N ps : List Str} {k : Nat} {R : Rl} (D : Def K mg x st ps) (S : FnScope N ps (defScope st)) (len : ∀ ds d, R ds d → ds.length = ps.length)
    (hbody : ∀ (f : Addr) (cdv : Value) (A : Around) (outer : List Env) (s : Shared) (H : Hp) (vs : List V) (Q : VK) (E : XK) (ds : List PyData) (d : PyData), Room k (A.deeper (envOfC x (defScope st) s.heap.objs.size f cdv)) → DaAll K H vs ds → R ds d → (∀ v H', Ex H H' → Da K H' v d → Q v H') →
      ∃ t, PSs (cxOf CX0 P w K mg base N x (defScope st) f cdv A outer s H E).nox (defBody st) t ∧ t { nx := fun _ H' => Q .non H', rt := Q } (start N vs) H) : FnAt P w K mg base (k + 1) x ps (spR K R) := by
  obtain ⟨f, fd, F, hm, hb⟩ := D
  refine ⟨f, fd, F.kp, hm, hb, F.ok S (fun vs H Q E h => ?_) fun cdv A outer s H vs Q E hr h => ?_⟩
  · obtain ⟨ds, d, h1, h2, _⟩ := h
    rw [h1.length]
    exact len ds d h2
  · obtain ⟨ds, d, h1, h2, h3⟩ := h
    exact hbody f cdv A outer s H vs Q E ds d hr h1 h2 h3
theorem Def.okN {x : String} {st : Stmt} {N ps : List Str} {k : Nat} {R : List PyData → List PyData → Prop} (D : Def K mg x st ps) (S : FnScope N ps (defScope st)) (len : ∀ ds d, R ds d → ds.length = ps.length)
    (hbody : ∀ (f : Addr) (cdv : Value) (A : Around) (outer : List Env) (s : Shared) (H : Hp) (vs : List V) (Q : VK) (E : XK) (ds es : List PyData), Room k (A.deeper (envOfC x (defScope st) s.heap.objs.size f cdv)) → DaAll K H vs ds → R ds es →
      (∀ p xs H', H p = none → Ex H H' → H' p = some (.lst xs) → DaAll K H' xs es → Q (.ref p) H') →
      ∃ t, PSs (cxOf CX0 P w K mg base N x (defScope st) f cdv A outer s H E).nox (defBody st) t ∧ t { nx := fun _ H' => Q .non H', rt := Q } (start N vs) H) : FnAt P w K mg base (k + 1) x ps (spN K R) := by
  obtain ⟨f, fd, F, hm, hb⟩ := D
  refine ⟨f, fd, F.kp, hm, hb, F.ok S (fun vs H Q E h => ?_) fun cdv A outer s H vs Q E hr h => ?_⟩
  · obtain ⟨ds, d, h1, h2, _⟩ := h
    rw [h1.length]
    exact len ds d h2
  · obtain ⟨ds, d, h1, h2, h3⟩ := h
    exact hbody f cdv A outer s H vs Q E ds d hr h1 h2 h3
theorem FnAt.none {x : String} {st : Stmt} {ps : List Str} {sp : Sp} {k : Nat} (D : Def K mg x st ps) (no : ∀ vs H Q E, ¬ sp vs H Q E) : FnAt P w K mg base k x ps sp := by
  obtain ⟨f, fd, F, hm, hb⟩ := D
  exact ⟨f, fd, F.kp, hm, hb, fun vs H Q E h => absurd h (no vs H Q E), fun A outer s H args us vs Q E _ _ _ _ h => absurd h (no vs H Q E)⟩
end
section
variable {X : Cx} {e : Expr} {es : List Expr} {t : TA} {p pos : Pos} {k j : Nat} {x : String} {ps : List Str} {sp : Sp}
theorem pe_globR {y : Str} {a : Addr} (hm : X.mg y = some (.ref a)) (hg : Gl X y := by rfl) (hd : (y == ("__debug__" : Str)) = false := by decide +kernel) : PE X (.Name y pos) (tC (.ref a)) := pe_glob hg hm rfl hd
/-- a call of a def -/
theorem pe_callX {E' : XK} (F : FnAt X.prog X.w X.K X.mg X.base j x ps sp) (hr : Room k X.A) (ha : PA X (e :: es) t) (hx : Passes CX0 X E' := by exact pass0) (hg : Gl X x := by rfl) (hj : j ≤ k := by omega) (hdb : ((x : Str) == ("__debug__" : Str)) = false := by decide +kernel)
    (he : starEach (e :: es) X.env = (false, eval e X.env) :: starEach es X.env := by rfl) (hpl : (backTo pos (starEach es X.env)).any (·.1) = false := by rfl) : PE X (.Call (.Name (x : Str) p) (e :: es) [] pos) (tCall sp [] E' t) := by
  obtain ⟨f, fd, hk, hm, hb, F⟩ := F
  exact pe_call F (hr.mono hj) hg hm hk hb .nil hx ha hdb he hpl
end
end K27

/-! K27: the text by places; trees as data. -/
namespace K27
open PySem PySem.Spec PyProof.Rows L2 Evl
def topS (i : Nat) : Stmt := PySem.Challenge.pw_lassoproof_k27_whole_moved_on_everywhere.main.body.getD i (.Pass ⟨0, 0, 0, 0⟩)
theorem bt_isinstance : bootBuiltins ("isinstance" : Str) = some (.builtin "isinstance") := by decide +kernel
theorem bt_min : bootBuiltins ("min" : Str) = some (.builtin "min") := by decide +kernel
theorem bt_max : bootBuiltins ("max" : Str) = some (.builtin "max") := by decide +kernel
theorem bt_list : bootBuiltins ("list" : Str) = some (.type "list") := by decide +kernel
theorem bt_int : bootBuiltins ("int" : Str) = some (.type "int") := by decide +kernel
theorem bt_tuple : bootBuiltins ("tuple" : Str) = some (.type "tuple") := by decide +kernel
theorem bt_str : bootBuiltins ("str" : Str) = some (.type "str") := by decide +kernel
theorem bt_bool : bootBuiltins ("bool" : Str) = some (.type "bool") := by decide +kernel
theorem bt_dict : bootBuiltins ("dict" : Str) = some (.type "dict") := by decide +kernel
def Cm.w : Cm → Str
  | .eq => "equal"
  | .lt => "below"
  | .le => "upto"
def Un.w : Un → Str
  | .not => "not"
  | .next => "next"
  | .ev => "eventually"
  | .al => "always"
def Bi.w : Bi → Str
  | .and => "and"
  | .or => "or"
  | .imp => "implies"
  | .same => "same"
  | .untl => "until"
  | .rel => "release"
  | .unl => "unless"
  | .str => "strong"
def Ok2.w : Ok2 → Str
  | .quo => "quotient"
  | .rem => "remainder"
def Op2.w : Op2 → Str
  | .plus => "plus"
  | .minus => "minus"
  | .times => "times"
  | .least => "least"
  | .most => "most"
def Tm.d : Tm → PyData
  | .num n => .tuple [.str "number", .int n]
  | .nm w => .tuple [.str "name", .str w]
  | .neg t => .tuple [.str "negative", t.d]
  | .opk o t k => .tuple [.str o.w, t.d, .int k]
  | .op2 o t u => .tuple [.str o.w, t.d, u.d]
def Fm.d : Fm → PyData
  | .tt => .tuple [.str "true"]
  | .ff => .tuple [.str "false"]
  | .cmp c t u => .tuple [.str c.w, t.d, u.d]
  | .un o f => .tuple [.str o.w, f.d]
  | .bi o f g => .tuple [.str o.w, f.d, g.d]
theorem Tm.noL : ∀ t : Tm, noL t.d = true
  | .num n => rfl
  | .nm w => rfl
  | .neg t => by
    show (true && (K27.noL t.d && true)) = true
    rw [Tm.noL t] <;> rfl
  | .opk o t k => by
    show (true && (K27.noL t.d && (true && true))) = true
    rw [Tm.noL t] <;> rfl
  | .op2 o t u => by
    show (true && (K27.noL t.d && (K27.noL u.d && true))) = true
    rw [Tm.noL t, Tm.noL u] <;> rfl
theorem Fm.noL : ∀ f : Fm, noL f.d = true
  | .tt => rfl
  | .ff => rfl
  | .cmp c t u => by
    show (true && (K27.noL t.d && (K27.noL u.d && true))) = true
    rw [Tm.noL t, Tm.noL u] <;> rfl
  | .un o f => by
    show (true && (K27.noL f.d && true)) = true
    rw [Fm.noL f] <;> rfl
  | .bi o f g => by
    show (true && (K27.noL f.d && (K27.noL g.d && true))) = true
    rw [Fm.noL f, Fm.noL g] <;> rfl
theorem Tm.pl : ∀ t : Tm, pl t.d = true
  | .num n => rfl
  | .nm w => rfl
  | .neg t => by
    show (true && (K27.pl t.d && true)) = true
    rw [Tm.pl t] <;> rfl
  | .opk o t k => by
    show (true && (K27.pl t.d && (true && true))) = true
    rw [Tm.pl t] <;> rfl
  | .op2 o t u => by
    show (true && (K27.pl t.d && (K27.pl u.d && true))) = true
    rw [Tm.pl t, Tm.pl u] <;> rfl
theorem Fm.pl : ∀ f : Fm, pl f.d = true
  | .tt => rfl
  | .ff => rfl
  | .cmp c t u => by
    show (true && (K27.pl t.d && (K27.pl u.d && true))) = true
    rw [Tm.pl t, Tm.pl u] <;> rfl
  | .un o f => by
    show (true && (K27.pl f.d && true)) = true
    rw [Fm.pl f] <;> rfl
  | .bi o f g => by
    show (true && (K27.pl f.d && (K27.pl g.d && true))) = true
    rw [Fm.pl f, Fm.pl g] <;> rfl

/-! ### depth, names -/
def Tm.dp : Tm → Nat
  | .num _ => 1
  | .nm _ => 1
  | .neg t => t.dp + 1
  | .opk _ t _ => t.dp + 1
  | .op2 _ t u => max t.dp u.dp + 1
/-- a term that is fine: its names are among N and may be compared, its divisors are small, of a product the first factor is a name, it is not deep -/
def Tm.fine (N : List Str) : Tm → Prop
  | .num n => -(2 ^ 64) < n ∧ n < 2 ^ 64
  | .nm w => w ∈ N
  | .neg t => t.fine N
  | .opk _ t k => t.fine N ∧ 0 < k ∧ k < 1000
  | .op2 o t u => t.fine N ∧ u.fine N ∧ (o = .times → ∃ w, t = .nm w)
def Fm.fine (N : List Str) : Fm → Prop
  | .tt => True
  | .ff => True
  | .cmp _ t u => (t.fine N ∧ t.dp ≤ 3) ∧ u.fine N ∧ u.dp ≤ 3
  | .un _ f => f.fine N
  | .bi _ f g => f.fine N ∧ g.fine N
theorem fine_iff {N : List Str} : ∀ f : Fm, f.fine N ↔ ∀ x ∈ f.cmps, x.fine N
  | .tt => ⟨fun _ x h => (by cases h), fun _ => trivial⟩
  | .ff => ⟨fun _ x h => (by cases h), fun _ => trivial⟩
  | .cmp c t u => ⟨fun h x hx => by
      obtain rfl := List.mem_singleton.mp hx
      exact h, fun h => h _ (List.mem_singleton.mpr rfl)⟩
  | .un o f => fine_iff f
  | .bi o f g => by
    show (f.fine N ∧ g.fine N) ↔ _
    rw [fine_iff f, fine_iff g]
    constructor
    · rintro ⟨h1, h2⟩ x hx
      exact (List.mem_append.mp hx).elim (h1 x) (h2 x)
    · intro h
      exact ⟨fun x hx => h x (List.mem_append.mpr (.inl hx)), fun x hx => h x (List.mem_append.mpr (.inr hx))⟩
theorem shr_fine {N : List Str} {f : Fm} (h : f.fine N) : (shr f).fine N := (fine_iff _).mpr fun x hx => (fine_iff f).mp h x (shr_cmps f x hx)
theorem moved_fine {N : List Str} {f : Fm} (r : Str → Int) (h : f.fine N) : (moved r f).fine N := (fine_iff _).mpr fun x hx => (fine_iff f).mp h x (moved_cmps r f x hx)
/-- the names may be compared as data -/
def NamesOk (N : List Str) : Prop := ∀ w ∈ N, PyData.canLay0 (.str w) = true
theorem lay_w {a : String} (h : PyData.canLay0 (.str (a : Str)) = true) : PyData.canLay0 (.str (a : Str)) = true := h
theorem lay_tup {ds : List PyData} (h : PyData.canLayAll0 ds = true) : PyData.canLay0 (.tuple ds) = true := by simp only [PyData.canLay0]; exact h
theorem lay_nil : PyData.canLayAll0 [] = true := by simp only [PyData.canLayAll0]
theorem lay_cons {d : PyData} {ds : List PyData} (h : PyData.canLay0 d = true) (h' : PyData.canLayAll0 ds = true) : PyData.canLayAll0 (d :: ds) = true := by
  simp only [PyData.canLayAll0]
  rw [h, h'] <;> rfl
theorem lay_int (i : Int) : PyData.canLay0 (.int i) = true := by simp only [PyData.canLay0]
theorem Cm.lay (c : Cm) : PyData.canLay0 (.str c.w) = true := by cases c <;> decide +kernel
theorem Un.lay (c : Un) : PyData.canLay0 (.str c.w) = true := by cases c <;> decide +kernel
theorem Bi.lay (c : Bi) : PyData.canLay0 (.str c.w) = true := by cases c <;> decide +kernel
theorem Ok2.lay (c : Ok2) : PyData.canLay0 (.str c.w) = true := by cases c <;> decide +kernel
theorem Op2.lay (c : Op2) : PyData.canLay0 (.str c.w) = true := by cases c <;> decide +kernel
theorem Tm.lay {N : List Str} (hN : NamesOk N) : ∀ t : Tm, t.fine N → PyData.canLay0 t.d = true
  | .num n, _ => lay_tup (lay_cons (by decide +kernel) (lay_cons (lay_int n) lay_nil))
  | .nm w, h => lay_tup (lay_cons (by decide +kernel) (lay_cons (hN w h) lay_nil))
  | .neg t, h => lay_tup (lay_cons (by decide +kernel) (lay_cons (Tm.lay hN t h) lay_nil))
  | .opk o t k, h => lay_tup (lay_cons o.lay (lay_cons (Tm.lay hN t h.1) (lay_cons (lay_int k) lay_nil)))
  | .op2 o t u, h => lay_tup (lay_cons o.lay (lay_cons (Tm.lay hN t h.1) (lay_cons (Tm.lay hN u h.2.1) lay_nil)))
theorem Fm.lay {N : List Str} (hN : NamesOk N) : ∀ f : Fm, f.fine N → PyData.canLay0 f.d = true
  | .tt, _ => by decide +kernel
  | .ff, _ => by decide +kernel
  | .cmp c t u, h => lay_tup (lay_cons c.lay (lay_cons (Tm.lay hN t h.1.1) (lay_cons (Tm.lay hN u h.2.1) lay_nil)))
  | .un o f, h => lay_tup (lay_cons o.lay (lay_cons (Fm.lay hN f h) lay_nil))
  | .bi o f g, h => lay_tup (lay_cons o.lay (lay_cons (Fm.lay hN f h.1) (lay_cons (Fm.lay hN g h.2) lay_nil)))
theorem Tm.depth : ∀ t : Tm, t.d.depth ≤ t.dp + 1
  | .num n => by simp [Tm.d, PyData.depth, PyData.depthAll, Tm.dp]
  | .nm w => by simp [Tm.d, PyData.depth, PyData.depthAll, Tm.dp]
  | .neg t => by
    have h := Tm.depth t
    simp only [Tm.d, PyData.depth, PyData.depthAll, Tm.dp]
    omega
  | .opk o t k => by
    have h := Tm.depth t
    simp only [Tm.d, PyData.depth, PyData.depthAll, Tm.dp]
    omega
  | .op2 o t u => by
    have h := Tm.depth t
    have h' := Tm.depth u
    simp only [Tm.d, PyData.depth, PyData.depthAll, Tm.dp]
    omega
theorem Fm.depth {N : List Str} : ∀ f : Fm, f.fine N → f.d.depth ≤ f.dp + 5
  | .tt, _ => by simp [Fm.d, PyData.depth, PyData.depthAll, Fm.dp]
  | .ff, _ => by simp [Fm.d, PyData.depth, PyData.depthAll, Fm.dp]
  | .cmp c t u, h => by
    have h1 := Tm.depth t
    have h2 := Tm.depth u
    have h3 := h.1.2
    have h4 := h.2.2
    simp only [Fm.d, PyData.depth, PyData.depthAll, Fm.dp]
    omega
  | .un o f, h => by
    have h1 := Fm.depth f h
    simp only [Fm.d, PyData.depth, PyData.depthAll, Fm.dp]
    omega
  | .bi o f g, h => by
    have h1 := Fm.depth f h.1
    have h2 := Fm.depth g h.2
    simp only [Fm.d, PyData.depth, PyData.depthAll, Fm.dp]
    omega
theorem Fm.shaped {N : List Str} (hN : NamesOk N) {f : Fm} (h : f.fine N) (hd : f.dp ≤ 50) : SeqAt.shaped f.d = true := by
  show (PyData.canLay0 f.d && decide (f.d.depth ≤ 64)) = true
  have h1 := Fm.depth f h
  rw [Fm.lay hN f h, decide_eq_true (show f.d.depth ≤ 64 by omega)] <;> rfl

/-! ### equal data, equal trees -/
theorem eqv_str (x y : Str) : PyData.eqv (.str x) (.str y) = decide (x = y) := by
  simp only [PyData.eqv]
  by_cases h : x = y
  · subst h; simp
  · rw [decide_eq_false h]; exact beq_eq_false_iff_ne.mpr h
theorem eqv_int (x y : Int) : PyData.eqv (.int x) (.int y) = decide (x = y) := by
  simp only [PyData.eqv]
  by_cases h : x = y
  · subst h; simp
  · rw [decide_eq_false h]; exact beq_eq_false_iff_ne.mpr h
theorem w_eq {a b : Str} {c : Bool} (h : decide (a = b) = c) : PyData.eqv (.str a) (.str b) = c := by rw [eqv_str, h]
theorem Fm.eq_tt (f : Fm) : PyData.eqv f.d (.tuple [.str "true"]) = decide (f = .tt) := by
  cases f with
  | tt => rfl
  | ff => decide +kernel
  | cmp c t u => rw [decide_eq_false (by intro z; cases z)]; simp only [Fm.d, PyData.eqv, PyData.eqvAll, Bool.and_false]
  | un o g => rw [decide_eq_false (by intro z; cases z)]; simp only [Fm.d, PyData.eqv, PyData.eqvAll, Bool.and_false]
  | bi o g h => rw [decide_eq_false (by intro z; cases z)]; simp only [Fm.d, PyData.eqv, PyData.eqvAll, Bool.and_false]
theorem Fm.eq_ff (f : Fm) : PyData.eqv f.d (.tuple [.str "false"]) = decide (f = .ff) := by
  cases f with
  | tt => decide +kernel
  | ff => rfl
  | cmp c t u => rw [decide_eq_false (by intro z; cases z)]; simp only [Fm.d, PyData.eqv, PyData.eqvAll, Bool.and_false]
  | un o g => rw [decide_eq_false (by intro z; cases z)]; simp only [Fm.d, PyData.eqv, PyData.eqvAll, Bool.and_false]
  | bi o g h => rw [decide_eq_false (by intro z; cases z)]; simp only [Fm.d, PyData.eqv, PyData.eqvAll, Bool.and_false]
section
variable {K : PySem.W.Frag} {σ : L2.St} {H : Hp} {ta tb : TE} {N : List Str} {f : Fm}
theorem ev_tt (hN : NamesOk N) (hf : f.fine N) (hd : f.dp ≤ 50) (h : E K ta σ H f.d) (h' : E K tb σ H (.tuple [.str "true"])) : Ev (tOp (rEqD K) ta tb) σ H (.bl (decide (f = .tt))) := by
  rw [← Fm.eq_tt f]
  exact ev_eqD h h' f.pl rfl (Fm.shaped hN hf hd) (by decide +kernel)
theorem ev_ff (hN : NamesOk N) (hf : f.fine N) (hd : f.dp ≤ 50) (h : E K ta σ H f.d) (h' : E K tb σ H (.tuple [.str "false"])) : Ev (tOp (rEqD K) ta tb) σ H (.bl (decide (f = .ff))) := by
  rw [← Fm.eq_ff f]
  exact ev_eqD h h' f.pl rfl (Fm.shaped hN hf hd) (by decide +kernel)
end
/-- a constant of the module -/
def Cst (K : PySem.W.Frag) (mg : Str → Option Value) (x : String) (d : PyData) : Prop := ∃ a, mg x = some (.ref a) ∧ ∀ H, Da K H (.ref a) d
end K27

/-! K27: lassoproof/formulas/shrink.py. -/
namespace K27
open PySem PySem.Spec PyProof.Rows L2 Evl
local macro_rules | `(tactic| walk_at "ev") => `(tactic| first
  | exact ev_c
  | exact ev_var rfl
  | (refine' et_test ?h; (case h => walk_at "ev"))
  | (refine' et_B ?h; (case h => walk_at "ev"))
  | (refine' et_not ?h; (case h => walk_at "ev"))
  | (refine' et_and ?a (fun _ => ?b); (case a => walk_at "ev"); (case b => walk_at "ev"))
  | (refine' et_or ?a (fun _ => ?b); (case a => walk_at "ev"); (case b => walk_at "ev"))
  | (refine' ev_op ?a ?b (rv_eq ?c); (case a => walk_at "ev"); (case b => walk_at "ev"); (case c => rfl))
  | (refine' ev_op ?a ?b rv_I0; (case a => walk_at "ev"); (case b => walk_at "ev"))
  | (refine' ev_inU ?a ?b ?c ?d; (case a => walk_at "ev"); (case b => (refine' eu_tup ?x ?y; (case x => walk_at "ev"); (case y => decide))); (case c => rfl); (case d => rfl))
  | (refine' ev_str (e_ixT ?a ?b ?c); (case a => walk_at "ed"); (case b => walk_at "ev"); (case c => first | exact at0 | exact at1 | exact at2))
  | (refine' ev_int (e_ixT ?a ?b ?c); (case a => walk_at "ed"); (case b => walk_at "ev"); (case c => first | exact at0 | exact at1 | exact at2))
  | exact Evl.ea_nil
  | (refine' Evl.ea_cons ?a ?b; (case a => walk_at "ev"); (case b => walk_at "ev")))
local macro_rules | `(tactic| walk_at "ed") => `(tactic| first
  | exact e_var rfl (by assumption)
  | exact e_var rfl (by constructor)
  | exact K27.ea_nil
  | (refine' K27.ea_cons ?a ?b; (case a => walk_at "ed"); (case b => walk_at "ed"))
  | (refine' e_tup ?a ?b; (case a => walk_at "ed"); (case b => (simp only [List.length_cons, List.length_nil, List.length_append]; omega)))
  | (refine' e_ixT ?a ?b ?c; (case a => walk_at "ed"); (case b => walk_at "ev"); (case c => first | exact at0 | exact at1 | exact at2))
  | (refine' e_ev ?a ?b; (case a => walk_at "ev"); (case b => first | exact .str _ | exact .int _ | exact .bl _ | assumption)))
section
variable {P : Program} {w : World} {K : PySem.W.Frag} {mg : Str → Option Value} {base : Heap}
/-! ### is_constant -/
abbrev s_is_constant : Stmt := topS 4
abbrev N_is_constant : List Str := ["formula"]
theorem sc_is_constant : FnScope N_is_constant ["formula"] (defScope s_is_constant) := ⟨rfl, rfl, rfl, by decide +kernel, rfl, by decide +kernel, by decide +kernel⟩
def R_is_constant : Rl := fun ds d => ∃ f : Fm, ds = [f.d] ∧ d = .bool (isc f)
theorem Fm.head (f : Fm) : ∃ (x : Str) (ds : List PyData), f.d = .tuple (.str x :: ds) ∧ isc f = (decide (V.str x = V.str "true") || decide (V.str x = V.str "false")) := by
  cases f with
  | tt => exact ⟨_, _, rfl, by decide +kernel⟩
  | ff => exact ⟨_, _, rfl, by decide +kernel⟩
  | cmp c t u => exact ⟨_, _, rfl, by show false = _; cases c <;> decide +kernel⟩
  | un o g => exact ⟨_, _, rfl, by show false = _; cases o <;> decide +kernel⟩
  | bi o g h => exact ⟨_, _, rfl, by show false = _; cases o <;> decide +kernel⟩
theorem ok_is_constant (D : Def K mg "is_constant" s_is_constant ["formula"]) : FnAt P w K mg base 1 "is_constant" ["formula"] (spR K R_is_constant) := by
  refine D.ok sc_is_constant (fun ds d ⟨f, h, _⟩ => by rw [h] <;> rfl) fun f0 cdv A outer s H vs Q E ds d hr hv hR q => ?_
  obtain ⟨f, rfl, rfl⟩ := hR
  obtain ⟨v0, rfl, h0⟩ := hv.i1
  refine ⟨_, (pss_one (ps_ret (pe_or (pe_cmpR op_eq (pe_ix ix_tup (pv 0) pe_int (fun _ _ => rfl)) pe_str (nomark _)) (pe_one (pe_cmpR op_eq (pe_ix ix_tup (pv 0) pe_int (fun _ _ => rfl)) pe_str (nomark _)))))), ?_⟩
  try dsimp only [cxOf]
  obtain ⟨x, ds, ef, ei⟩ := f.head
  rw [ei] at q
  rw [ef] at h0
  exact b_ret (Ex.refl H) (e_bl (ev_orV (by walk_at "ev") fun _ => by walk_at "ev")) fun v H1 e1 r => q v H1 e1 r
/-! ### opposite -/
abbrev s_opposite : Stmt := topS 5
abbrev N_opposite : List Str := ["formula"]
theorem sc_opposite : FnScope N_opposite ["formula"] (defScope s_opposite) := ⟨rfl, rfl, rfl, by decide +kernel, rfl, by decide +kernel, by decide +kernel⟩
def R_opposite (N : List Str) : Rl := fun ds d => ∃ f : Fm, ds = [f.d] ∧ f.fine N ∧ f.dp ≤ 50 ∧ d = (opp f).d
theorem opp_not {f : Fm} (h : f ≠ .tt) (h' : f ≠ .ff) : opp f = .un .not f := by
  cases f with
  | tt => exact absurd rfl h
  | ff => exact absurd rfl h'
  | cmp c t u => rfl
  | un o g => rfl
  | bi o g k => rfl
theorem ok_opposite {N : List Str} (hN : NamesOk N) (C_TRUE : Cst K mg "TRUE" (.tuple [.str "true"])) (C_FALSE : Cst K mg "FALSE" (.tuple [.str "false"])) (D : Def K mg "opposite" s_opposite ["formula"]) : FnAt P w K mg base 1 "opposite" ["formula"] (spR K (R_opposite N)) := by
  obtain ⟨aT, h_TRUE, dT⟩ := C_TRUE
  obtain ⟨aF, h_FALSE, dF⟩ := C_FALSE
  refine D.ok sc_opposite (fun ds d ⟨f, h, _⟩ => by rw [h] <;> rfl) fun f0 cdv A outer s H vs Q E ds d hr hv hR q => ?_
  obtain ⟨f, rfl, hf, hd, rfl⟩ := hR
  obtain ⟨v0, rfl, h0⟩ := hv.i1
  refine ⟨_, (pss_cons (ps_if (pt_cmpR (op_eqD hr.units) (pv 0) (pe_globR h_TRUE) (nomark _)) (pss_one (ps_ret (pe_globR h_FALSE))) pss_nil)
      (pss_cons (ps_if (pt_cmpR (op_eqD hr.units) (pv 0) (pe_globR h_FALSE) (nomark _)) (pss_one (ps_ret (pe_globR h_TRUE))) pss_nil)
      (pss_one (ps_ret (pe_tup (pa_cons pe_str (pa_cons (pv 0) pa_nil))))))), ?_⟩
  try dsimp only [cxOf]
  refine b_when (Ex.refl H) (et_test (ev_tt hN hf hd (e_var rfl h0) (e_ev ev_c (dT H)))) (fun hb H1 e1 => ?_) fun hb H1 e1 => ?_
  · have z : f = .tt := of_decide_eq_true hb
    subst z
    exact b_ret e1 (e_ev ev_c (dF H)) q
  refine b_when e1 (et_test (ev_ff hN hf hd (e_var rfl h0) (e_ev ev_c (dF H)))) (fun hb2 H2 e2 => ?_) fun hb2 H2 e2 => ?_
  · have z : f = .ff := of_decide_eq_true hb2
    subst z
    exact b_ret e2 (e_ev ev_c (dT H)) q
  rw [opp_not (of_decide_eq_false hb) (of_decide_eq_false hb2)] at q
  exact b_ret e2 (by walk_at "ed") q
/-! ### shrink_one -/
abbrev s_shrink_one : Stmt := topS 6
abbrev N_shrink_one : List Str := ["word", "part"]
theorem sc_shrink_one : FnScope N_shrink_one ["word", "part"] (defScope s_shrink_one) := ⟨rfl, rfl, rfl, by decide +kernel, rfl, by decide +kernel, by decide +kernel⟩
def R_shrink_one (N : List Str) : Rl := fun ds d => ∃ (o : Un) (f : Fm), ds = [.str o.w, f.d] ∧ f.fine N ∧ f.dp ≤ 50 ∧ d = (sh1 o f).d
theorem ok_shrink_one {N : List Str} (G_opposite : FnAt P w K mg base 1 "opposite" ["formula"] (spR K (R_opposite N))) (G_is_constant : FnAt P w K mg base 1 "is_constant" ["formula"] (spR K R_is_constant)) (D : Def K mg "shrink_one" s_shrink_one ["word", "part"]) :
    FnAt P w K mg base 2 "shrink_one" ["word", "part"] (spR K (R_shrink_one N)) := by
  refine D.ok sc_shrink_one (fun ds d ⟨o, f, h, _⟩ => by rw [h] <;> rfl) fun f0 cdv A outer s H vs Q E ds d hr hv hR q => ?_
  obtain ⟨o, f, rfl, hf, hd, rfl⟩ := hR
  obtain ⟨v0, v1, rfl, h0, h1⟩ := hv.i2
  obtain rfl := h0.str_inv
  refine ⟨_, (pss_cons (ps_if (pt_cmpR op_eq (pv 0) pe_str (nomark _)) (pss_one (ps_ret (pe_callX G_opposite hr (pa_cons (pv 1) pa_nil)))) pss_nil)
      (pss_cons (ps_if (pt_val (pe_callX G_is_constant hr (pa_cons (pv 1) pa_nil))) (pss_one (ps_ret (pv 1))) pss_nil)
      (pss_one (ps_ret (pe_tup (pa_cons (pv 0) (pa_cons (pv 1) pa_nil))))))), ?_⟩
  try dsimp only [cxOf]
  unfold sh1 at q
  refine b_when (Ex.refl H) (by walk_at "ev") (fun hb H1 e1 => ?_) fun hb H1 e1 => ?_
  · have z : o = .not := by cases o <;> first | rfl | exact absurd hb (by decide +kernel)
    rw [if_pos z] at q
    exact b_ret e1 (e_call (ds := [f.d]) (by walk_at "ed") ⟨f, rfl, hf, hd, rfl⟩) q
  have z : ¬ o = .not := by intro z; subst z; exact absurd hb (by decide +kernel)
  rw [if_neg z] at q
  refine b_when e1 (et_B (ev_bl (e_call (ds := [f.d]) (by walk_at "ed") ⟨f, rfl, rfl⟩))) (fun hc H2 e2 => ?_) fun hc H2 e2 => ?_
  · rw [if_pos hc] at q
    exact b_ret e2 (e_var rfl h1) q
  · rw [if_neg (by rw [hc]; decide)] at q
    exact b_ret e2 (by walk_at "ed") q
/-! ### the four with a constant -/
abbrev s_with_true_first : Stmt := topS 7
abbrev N_with_true_first : List Str := ["word", "second"]
theorem sc_with_true_first : FnScope N_with_true_first ["word", "second"] (defScope s_with_true_first) := ⟨rfl, rfl, rfl, by decide +kernel, rfl, by decide +kernel, by decide +kernel⟩
def R_wtf (N : List Str) : Rl := fun ds d => ∃ (o : Bi) (f : Fm), ds = [.str o.w, f.d] ∧ f.fine N ∧ f.dp ≤ 50 ∧ d = (wtf o f).d
theorem ok_with_true_first {N : List Str} (C_TRUE : Cst K mg "TRUE" (.tuple [.str "true"])) (G_shrink_one : FnAt P w K mg base 2 "shrink_one" ["word", "part"] (spR K (R_shrink_one N))) (D : Def K mg "with_true_first" s_with_true_first ["word", "second"]) :
    FnAt P w K mg base 3 "with_true_first" ["word", "second"] (spR K (R_wtf N)) := by
  obtain ⟨aT, h_TRUE, dT⟩ := C_TRUE
  refine D.ok sc_with_true_first (fun ds d ⟨o, f, h, _⟩ => by rw [h] <;> rfl) fun f0 cdv A outer s H vs Q E ds d hr hv hR q => ?_
  obtain ⟨o, f, rfl, hf, hd, rfl⟩ := hR
  obtain ⟨v0, v1, rfl, h0, h1⟩ := hv.i2
  obtain rfl := h0.str_inv
  refine ⟨_, (pss_cons (ps_if (PW.pt (pw_or (pt_cmpR op_eq (pv 0) pe_str (nomark _)) (pw_or1 (pt_cmpR op_eq (pv 0) pe_str (nomark _))))) (pss_one (ps_ret (pe_globR h_TRUE))) pss_nil)
      (pss_cons (ps_if (pt_cmpR op_eq (pv 0) pe_str (nomark _)) (pss_one (ps_ret (pe_callX G_shrink_one hr (pa_cons pe_str (pa_cons (pv 1) pa_nil))))) pss_nil)
      (pss_one (ps_ret (pv 1))))), ?_⟩
  try dsimp only [cxOf]
  refine b_when (Ex.refl H) (by walk_at "ev") (fun hb H1 e1 => ?_) fun hb H1 e1 => ?_
  · rw [show wtf o f = .tt by cases o <;> first | rfl | exact absurd hb (by decide +kernel)] at q
    exact b_ret e1 (e_ev ev_c (dT H)) q
  refine b_when e1 (by walk_at "ev") (fun hc H2 e2 => ?_) fun hc H2 e2 => ?_
  · rw [show wtf o f = sh1 .ev f by cases o <;> first | rfl | exact absurd hc (by decide +kernel)] at q
    exact b_ret e2 (e_call (ds := [.str Un.ev.w, f.d]) (by walk_at "ed") ⟨.ev, f, rfl, hf, hd, rfl⟩) q
  · rw [show wtf o f = f by cases o <;> first | rfl | exact absurd hb (by decide +kernel) | exact absurd hc (by decide +kernel)] at q
    exact b_ret e2 (e_var rfl h1) q
abbrev s_with_false_first : Stmt := topS 8
abbrev N_with_false_first : List Str := ["word", "second"]
theorem sc_with_false_first : FnScope N_with_false_first ["word", "second"] (defScope s_with_false_first) := ⟨rfl, rfl, rfl, by decide +kernel, rfl, by decide +kernel, by decide +kernel⟩
def R_wff (N : List Str) : Rl := fun ds d => ∃ (o : Bi) (f : Fm), ds = [.str o.w, f.d] ∧ f.fine N ∧ f.dp ≤ 50 ∧ d = (wff o f).d
theorem ok_with_false_first {N : List Str} (C_TRUE : Cst K mg "TRUE" (.tuple [.str "true"])) (C_FALSE : Cst K mg "FALSE" (.tuple [.str "false"])) (G_opposite : FnAt P w K mg base 1 "opposite" ["formula"] (spR K (R_opposite N)))
    (G_shrink_one : FnAt P w K mg base 2 "shrink_one" ["word", "part"] (spR K (R_shrink_one N))) (D : Def K mg "with_false_first" s_with_false_first ["word", "second"]) : FnAt P w K mg base 3 "with_false_first" ["word", "second"] (spR K (R_wff N)) := by
  obtain ⟨aT, h_TRUE, dT⟩ := C_TRUE
  obtain ⟨aF, h_FALSE, dF⟩ := C_FALSE
  refine D.ok sc_with_false_first (fun ds d ⟨o, f, h, _⟩ => by rw [h] <;> rfl) fun f0 cdv A outer s H vs Q E ds d hr hv hR q => ?_
  obtain ⟨o, f, rfl, hf, hd, rfl⟩ := hR
  obtain ⟨v0, v1, rfl, h0, h1⟩ := hv.i2
  obtain rfl := h0.str_inv
  refine ⟨_, (pss_cons (ps_if (PW.pt (pw_or (pt_cmpR op_eq (pv 0) pe_str (nomark _)) (pw_or1 (pt_cmpR op_eq (pv 0) pe_str (nomark _))))) (pss_one (ps_ret (pe_globR h_FALSE))) pss_nil)
      (pss_cons (ps_if (pt_cmpR op_eq (pv 0) pe_str (nomark _)) (pss_one (ps_ret (pe_globR h_TRUE))) pss_nil)
      (pss_cons (ps_if (pt_cmpR op_eq (pv 0) pe_str (nomark _)) (pss_one (ps_ret (pe_callX G_opposite hr (pa_cons (pv 1) pa_nil)))) pss_nil)
      (pss_cons (ps_if (pt_cmpR op_eq (pv 0) pe_str (nomark _)) (pss_one (ps_ret (pe_callX G_shrink_one hr (pa_cons pe_str (pa_cons (pv 1) pa_nil))))) pss_nil)
      (pss_one (ps_ret (pv 1))))))), ?_⟩
  try dsimp only [cxOf]
  refine b_when (Ex.refl H) (by walk_at "ev") (fun b1 H1 e1 => ?_) fun b1 H1 e1 => ?_
  · rw [show wff o f = .ff by cases o <;> first | rfl | exact absurd b1 (by decide +kernel)] at q
    exact b_ret e1 (e_ev ev_c (dF H)) q
  refine b_when e1 (by walk_at "ev") (fun b2 H2 e2 => ?_) fun b2 H2 e2 => ?_
  · rw [show wff o f = .tt by cases o <;> first | rfl | exact absurd b2 (by decide +kernel)] at q
    exact b_ret e2 (e_ev ev_c (dT H)) q
  refine b_when e2 (by walk_at "ev") (fun b3 H3 e3 => ?_) fun b3 H3 e3 => ?_
  · rw [show wff o f = opp f by cases o <;> first | rfl | exact absurd b3 (by decide +kernel)] at q
    exact b_ret e3 (e_call (ds := [f.d]) (by walk_at "ed") ⟨f, rfl, hf, hd, rfl⟩) q
  refine b_when e3 (by walk_at "ev") (fun b4 H4 e4 => ?_) fun b4 H4 e4 => ?_
  · rw [show wff o f = sh1 .al f by cases o <;> first | rfl | exact absurd b4 (by decide +kernel)] at q
    exact b_ret e4 (e_call (ds := [.str Un.al.w, f.d]) (by walk_at "ed") ⟨.al, f, rfl, hf, hd, rfl⟩) q
  · rw [show wff o f = f by cases o <;> first | rfl | exact absurd b1 (by decide +kernel) | exact absurd b2 (by decide +kernel) | exact absurd b3 (by decide +kernel) | exact absurd b4 (by decide +kernel)] at q
    exact b_ret e4 (e_var rfl h1) q
abbrev s_with_true_second : Stmt := topS 9
abbrev N_with_true_second : List Str := ["word", "first"]
theorem sc_with_true_second : FnScope N_with_true_second ["word", "first"] (defScope s_with_true_second) := ⟨rfl, rfl, rfl, by decide +kernel, rfl, by decide +kernel, by decide +kernel⟩
def R_wts (N : List Str) : Rl := fun ds d => ∃ (o : Bi) (f : Fm), ds = [.str o.w, f.d] ∧ d = (wts o f).d
theorem ok_with_true_second {N : List Str} (C_TRUE : Cst K mg "TRUE" (.tuple [.str "true"])) (D : Def K mg "with_true_second" s_with_true_second ["word", "first"]) : FnAt P w K mg base 3 "with_true_second" ["word", "first"] (spR K (R_wts N)) := by
  obtain ⟨aT, h_TRUE, dT⟩ := C_TRUE
  refine D.ok sc_with_true_second (fun ds d ⟨o, f, h, _⟩ => by rw [h] <;> rfl) fun f0 cdv A outer s H vs Q E ds d hr hv hR q => ?_
  obtain ⟨o, f, rfl, rfl⟩ := hR
  obtain ⟨v0, v1, rfl, h0, h1⟩ := hv.i2
  obtain rfl := h0.str_inv
  refine ⟨_, (pss_cons (ps_if (PW.pt (pw_or (pt_cmpR op_eq (pv 0) pe_str (nomark _)) (pw_or1 (pt_cmpR op_eq (pv 0) pe_str (nomark _))))) (pss_one (ps_ret (pv 1))) pss_nil)
      (pss_cons (ps_if (pt_cmpR op_eq (pv 0) pe_str (nomark _)) (pss_one (ps_ret (pe_tup (pa_cons pe_str (pa_cons (pv 1) pa_nil))))) pss_nil)
      (pss_one (ps_ret (pe_globR h_TRUE))))), ?_⟩
  try dsimp only [cxOf]
  refine b_when (Ex.refl H) (by walk_at "ev") (fun b1 H1 e1 => ?_) fun b1 H1 e1 => ?_
  · rw [show wts o f = f by cases o <;> first | rfl | exact absurd b1 (by decide +kernel)] at q
    exact b_ret e1 (e_var rfl h1) q
  refine b_when e1 (by walk_at "ev") (fun b2 H2 e2 => ?_) fun b2 H2 e2 => ?_
  · rw [show wts o f = .un .ev f by cases o <;> first | rfl | exact absurd b2 (by decide +kernel)] at q
    exact b_ret e2 (by walk_at "ed") q
  · rw [show wts o f = .tt by cases o <;> first | rfl | exact absurd b1 (by decide +kernel) | exact absurd b2 (by decide +kernel)] at q
    exact b_ret e2 (e_ev ev_c (dT H)) q
abbrev s_with_false_second : Stmt := topS 10
abbrev N_with_false_second : List Str := ["word", "first"]
theorem sc_with_false_second : FnScope N_with_false_second ["word", "first"] (defScope s_with_false_second) := ⟨rfl, rfl, rfl, by decide +kernel, rfl, by decide +kernel, by decide +kernel⟩
def R_wfs (N : List Str) : Rl := fun ds d => ∃ (o : Bi) (f : Fm), ds = [.str o.w, f.d] ∧ d = (wfs o f).d
theorem ok_with_false_second {N : List Str} (C_FALSE : Cst K mg "FALSE" (.tuple [.str "false"])) (D : Def K mg "with_false_second" s_with_false_second ["word", "first"]) : FnAt P w K mg base 3 "with_false_second" ["word", "first"] (spR K (R_wfs N)) := by
  obtain ⟨aF, h_FALSE, dF⟩ := C_FALSE
  refine D.ok sc_with_false_second (fun ds d ⟨o, f, h, _⟩ => by rw [h] <;> rfl) fun f0 cdv A outer s H vs Q E ds d hr hv hR q => ?_
  obtain ⟨o, f, rfl, rfl⟩ := hR
  obtain ⟨v0, v1, rfl, h0, h1⟩ := hv.i2
  obtain rfl := h0.str_inv
  refine ⟨_, (pss_cons (ps_if (pt_cmpR op_eq (pv 0) pe_str (nomark _)) (pss_one (ps_ret (pv 1))) pss_nil)
      (pss_cons (ps_if (PW.pt (pw_or (pt_cmpR op_eq (pv 0) pe_str (nomark _)) (pw_or1 (pt_cmpR op_eq (pv 0) pe_str (nomark _))))) (pss_one (ps_ret (pe_tup (pa_cons pe_str (pa_cons (pv 1) pa_nil))))) pss_nil)
      (pss_cons (ps_if (pt_cmpR op_eq (pv 0) pe_str (nomark _)) (pss_one (ps_ret (pe_tup (pa_cons pe_str (pa_cons (pv 1) pa_nil))))) pss_nil)
      (pss_one (ps_ret (pe_globR h_FALSE)))))), ?_⟩
  try dsimp only [cxOf]
  refine b_when (Ex.refl H) (by walk_at "ev") (fun b1 H1 e1 => ?_) fun b1 H1 e1 => ?_
  · rw [show wfs o f = f by cases o <;> first | rfl | exact absurd b1 (by decide +kernel)] at q
    exact b_ret e1 (e_var rfl h1) q
  refine b_when e1 (by walk_at "ev") (fun b2 H2 e2 => ?_) fun b2 H2 e2 => ?_
  · rw [show wfs o f = .un .not f by cases o <;> first | rfl | exact absurd b2 (by decide +kernel)] at q
    exact b_ret e2 (by walk_at "ed") q
  refine b_when e2 (by walk_at "ev") (fun b3 H3 e3 => ?_) fun b3 H3 e3 => ?_
  · rw [show wfs o f = .un .al f by cases o <;> first | rfl | exact absurd b3 (by decide +kernel)] at q
    exact b_ret e3 (by walk_at "ed") q
  · rw [show wfs o f = .ff by cases o <;> first | rfl | exact absurd b1 (by decide +kernel) | exact absurd b2 (by decide +kernel) | exact absurd b3 (by decide +kernel)] at q
    exact b_ret e3 (e_ev ev_c (dF H)) q
/-! ### shrink_two, shrink -/
abbrev s_shrink_two : Stmt := topS 11
abbrev N_shrink_two : List Str := ["word", "first", "second"]
theorem sc_shrink_two : FnScope N_shrink_two ["word", "first", "second"] (defScope s_shrink_two) := ⟨rfl, rfl, rfl, by decide +kernel, rfl, by decide +kernel, by decide +kernel⟩
def R_sh2 (N : List Str) : Rl := fun ds d => ∃ (o : Bi) (f g : Fm), ds = [.str o.w, f.d, g.d] ∧ (f.fine N ∧ f.dp ≤ 50) ∧ (g.fine N ∧ g.dp ≤ 50) ∧ d = (sh2 o f g).d
theorem ok_shrink_two {N : List Str} (hN : NamesOk N) (C_TRUE : Cst K mg "TRUE" (.tuple [.str "true"])) (C_FALSE : Cst K mg "FALSE" (.tuple [.str "false"])) (G_with_true_first : FnAt P w K mg base 3 "with_true_first" ["word", "second"] (spR K (R_wtf N)))
    (G_with_false_first : FnAt P w K mg base 3 "with_false_first" ["word", "second"] (spR K (R_wff N))) (G_with_true_second : FnAt P w K mg base 3 "with_true_second" ["word", "first"] (spR K (R_wts N))) (G_with_false_second : FnAt P w K mg base 3 "with_false_second" ["word", "first"] (spR K (R_wfs N)))
    (D : Def K mg "shrink_two" s_shrink_two ["word", "first", "second"]) : FnAt P w K mg base 4 "shrink_two" ["word", "first", "second"] (spR K (R_sh2 N)) := by
  obtain ⟨aT, h_TRUE, dT⟩ := C_TRUE
  obtain ⟨aF, h_FALSE, dF⟩ := C_FALSE
  refine D.ok sc_shrink_two (fun ds d ⟨o, f, g, h, _⟩ => by rw [h] <;> rfl) fun f0 cdv A outer s H vs Q E ds d hr hv hR q => ?_
  obtain ⟨o, f, g, rfl, hf, hg, rfl⟩ := hR
  obtain ⟨v0, v1, v2, rfl, h0, h1, h2⟩ := hv.i3
  obtain rfl := h0.str_inv
  refine ⟨_, (pss_cons (ps_if (pt_cmpR (op_eqD hr.units) (pv 1) (pe_globR h_TRUE) (nomark _)) (pss_one (ps_ret (pe_callX G_with_true_first hr (pa_cons (pv 0) (pa_cons (pv 2) pa_nil))))) pss_nil)
      (pss_cons (ps_if (pt_cmpR (op_eqD hr.units) (pv 1) (pe_globR h_FALSE) (nomark _)) (pss_one (ps_ret (pe_callX G_with_false_first hr (pa_cons (pv 0) (pa_cons (pv 2) pa_nil))))) pss_nil)
      (pss_cons (ps_if (pt_cmpR (op_eqD hr.units) (pv 2) (pe_globR h_TRUE) (nomark _)) (pss_one (ps_ret (pe_callX G_with_true_second hr (pa_cons (pv 0) (pa_cons (pv 1) pa_nil))))) pss_nil)
      (pss_cons (ps_if (pt_cmpR (op_eqD hr.units) (pv 2) (pe_globR h_FALSE) (nomark _)) (pss_one (ps_ret (pe_callX G_with_false_second hr (pa_cons (pv 0) (pa_cons (pv 1) pa_nil))))) pss_nil)
      (pss_one (ps_ret (pe_tup (pa_cons (pv 0) (pa_cons (pv 1) (pa_cons (pv 2) pa_nil)))))))))), ?_⟩
  try dsimp only [cxOf]
  unfold sh2 at q
  refine b_when (Ex.refl H) (et_test (ev_tt hN hf.1 hf.2 (e_var rfl h1) (e_ev ev_c (dT H)))) (fun b1 H1 e1 => ?_) fun b1 H1 e1 => ?_
  · rw [if_pos (of_decide_eq_true b1)] at q
    exact b_ret e1 (e_call (ds := [.str o.w, g.d]) (by walk_at "ed") ⟨o, g, rfl, hg.1, hg.2, rfl⟩) q
  rw [if_neg (of_decide_eq_false b1)] at q
  refine b_when e1 (et_test (ev_ff hN hf.1 hf.2 (e_var rfl h1) (e_ev ev_c (dF H)))) (fun b2 H2 e2 => ?_) fun b2 H2 e2 => ?_
  · rw [if_pos (of_decide_eq_true b2)] at q
    exact b_ret e2 (e_call (ds := [.str o.w, g.d]) (by walk_at "ed") ⟨o, g, rfl, hg.1, hg.2, rfl⟩) q
  rw [if_neg (of_decide_eq_false b2)] at q
  refine b_when e2 (et_test (ev_tt hN hg.1 hg.2 (e_var rfl h2) (e_ev ev_c (dT H)))) (fun b3 H3 e3 => ?_) fun b3 H3 e3 => ?_
  · rw [if_pos (of_decide_eq_true b3)] at q
    exact b_ret e3 (e_call (ds := [.str o.w, f.d]) (by walk_at "ed") ⟨o, f, rfl, rfl⟩) q
  rw [if_neg (of_decide_eq_false b3)] at q
  refine b_when e3 (et_test (ev_ff hN hg.1 hg.2 (e_var rfl h2) (e_ev ev_c (dF H)))) (fun b4 H4 e4 => ?_) fun b4 H4 e4 => ?_
  · rw [if_pos (of_decide_eq_true b4)] at q
    exact b_ret e4 (e_call (ds := [.str o.w, f.d]) (by walk_at "ed") ⟨o, f, rfl, rfl⟩) q
  rw [if_neg (of_decide_eq_false b4)] at q
  exact b_ret e4 (by walk_at "ed") q
abbrev s_shrink : Stmt := topS 12
abbrev N_shrink : List Str := ["formula", "word"]
theorem sc_shrink : FnScope N_shrink ["formula"] (defScope s_shrink) := ⟨rfl, rfl, rfl, by decide +kernel, rfl, by decide +kernel, by decide +kernel⟩
def R_shr (N : List Str) (n : Nat) : Rl := fun ds d => ∃ f : Fm, ds = [f.d] ∧ f.fine N ∧ f.dp ≤ n ∧ d = (shr f).d
theorem ok_shrink {N : List Str} (C_COMPARISONS_shrink : Cst K mg "COMPARISONS_shrink" (.tuple (["equal", "below", "upto"].map fun x : String => .str x))) (G_is_constant : FnAt P w K mg base 1 "is_constant" ["formula"] (spR K R_is_constant))
    (G_shrink_one : FnAt P w K mg base 2 "shrink_one" ["word", "part"] (spR K (R_shrink_one N))) (G_shrink_two : FnAt P w K mg base 4 "shrink_two" ["word", "first", "second"] (spR K (R_sh2 N))) (Z_len : mg "len" = none)
    (D : Def K mg "shrink" s_shrink ["formula"]) : ∀ n : Nat, n ≤ 50 → FnAt P w K mg base (n + 4) "shrink" ["formula"] (spR K (R_shr N n))
  | 0, _ => FnAt.none D fun vs H Q E h => by
    obtain ⟨ds, d, _, ⟨f, _, _, h, _⟩, _⟩ := h
    have := dp_pos f
    omega
  | n + 1, hn => by
    have G_shrink := ok_shrink C_COMPARISONS_shrink G_is_constant G_shrink_one G_shrink_two Z_len D n (by omega)
    obtain ⟨aC, h_COMPARISONS_shrink, dC⟩ := C_COMPARISONS_shrink
    refine D.ok sc_shrink (fun ds d ⟨f, h, _⟩ => by rw [h] <;> rfl) fun f0 cdv A outer s H vs Q E ds d hr hv hR q => ?_
    obtain ⟨f, rfl, hf, hd, rfl⟩ := hR
    obtain ⟨v0, rfl, h0⟩ := hv.i1
    refine ⟨_, (pss_cons (ps_set (i := 1) sc_shrink.nd rfl (by first | exact Or.inl rfl | exact Or.inr rfl) (pe_ix ix_tup (pv 0) pe_int (fun _ _ => rfl)))
      (pss_cons (ps_if (PW.pt (pw_or (pt_cmpR op_in_seq (pv 1) (pe_globR h_COMPARISONS_shrink) (by rfl)) (pw_or1 (pt_val (pe_callX G_is_constant hr (pa_cons (pv 0) pa_nil)))))) (pss_one (ps_ret (pv 0))) pss_nil)
      (pss_cons (ps_if (pt_cmpR op_eq (pe_callB call_lenS (by rfl) Z_len PySem.boot_len (pa_cons (pv 0) pa_nil)) pe_int (nomark _)) (pss_one (ps_ret (pe_callX G_shrink_one hr (pa_cons (pv 1) (pa_cons (pe_callX G_shrink hr (pa_cons (pe_ix ix_tup (pv 0) pe_int (fun _ _ => rfl)) pa_nil)) pa_nil))))) pss_nil)
      (pss_one (ps_ret (pe_callX G_shrink_two hr (pa_cons (pv 1) (pa_cons (pe_callX G_shrink hr (pa_cons (pe_ix ix_tup (pv 0) pe_int (fun _ _ => rfl)) pa_nil)) (pa_cons (pe_callX G_shrink hr (pa_cons (pe_ix ix_tup (pv 0) pe_int (fun _ _ => rfl)) pa_nil)) pa_nil))))))))), ?_⟩
    try dsimp only [cxOf]
    have dC' : ∀ H, Da K H (.ref aC) (.tuple ((["equal", "below", "upto"].map Str.ofString).map PyData.str)) := dC
    cases f with
    | tt =>
      refine b_asg (Ex.refl H) (by walk_at "ev") fun H1 e1 => ?_
      refine b_yes e1 (et_or (et_test (ev_inC (by walk_at "ev") dC')) fun _ => et_B (ev_bl (e_call (ds := [Fm.tt.d]) (by walk_at "ed") ⟨.tt, rfl, rfl⟩))) (by decide +kernel) fun H2 e2 => ?_
      exact b_ret e2 (e_var rfl h0) q
    | ff =>
      refine b_asg (Ex.refl H) (by walk_at "ev") fun H1 e1 => ?_
      refine b_yes e1 (et_or (et_test (ev_inC (by walk_at "ev") dC')) fun _ => et_B (ev_bl (e_call (ds := [Fm.ff.d]) (by walk_at "ed") ⟨.ff, rfl, rfl⟩))) (by decide +kernel) fun H2 e2 => ?_
      exact b_ret e2 (e_var rfl h0) q
    | cmp c t u =>
      refine b_asg (Ex.refl H) (by walk_at "ev") fun H1 e1 => ?_
      refine b_yes e1 (et_or (et_test (ev_inC (by walk_at "ev") dC')) fun _ => et_B (ev_bl (e_call (ds := [(Fm.cmp c t u).d]) (by walk_at "ed") ⟨.cmp c t u, rfl, rfl⟩))) (by show (_ || false) = true; cases c <;> decide +kernel) fun H2 e2 => ?_
      exact b_ret e2 (e_var rfl h0) q
    | un o f =>
      have hd' : f.dp ≤ n := Nat.le_of_succ_le_succ hd
      refine b_asg (Ex.refl H) (by walk_at "ev") fun H1 e1 => ?_
      refine b_skip e1 (et_or (et_test (ev_inC (by walk_at "ev") dC')) fun _ => et_B (ev_bl (e_call (ds := [(Fm.un o f).d]) (by walk_at "ed") ⟨.un o f, rfl, rfl⟩))) (by show (_ || false) = false; cases o <;> decide +kernel) fun H2 e2 => ?_
      refine b_yes e2 (et_test (ev_op (ev_lenD (ds := [.str o.w, f.d]) (.inr (e_var rfl h0))) ev_c (rv_eq rfl))) (by show decide (V.int 2 = V.int 2) = true; decide +kernel) fun H3 e3 => ?_
      refine b_ret e3 (e_call (ds := [.str o.w, (shr f).d]) (K27.ea_cons (by walk_at "ed") (K27.ea_cons (e_call (ds := [f.d]) (K27.ea_cons (e_ixT (e_var rfl h0) (by walk_at "ev") at1) K27.ea_nil) ⟨f, rfl, hf, hd', rfl⟩) K27.ea_nil)) ⟨o, shr f, rfl, shr_fine hf, ?_, rfl⟩) q
      have := shr_dp f
      omega
    | bi o f g =>
      have hd' : f.dp ≤ n ∧ g.dp ≤ n := by
        have : max f.dp g.dp + 1 ≤ n + 1 := hd
        omega
      refine b_asg (Ex.refl H) (by walk_at "ev") fun H1 e1 => ?_
      refine b_skip e1 (et_or (et_test (ev_inC (by walk_at "ev") dC')) fun _ => et_B (ev_bl (e_call (ds := [(Fm.bi o f g).d]) (by walk_at "ed") ⟨.bi o f g, rfl, rfl⟩))) (by show (_ || false) = false; cases o <;> decide +kernel) fun H2 e2 => ?_
      refine b_skip e2 (et_test (ev_op (ev_lenD (ds := [.str o.w, f.d, g.d]) (.inr (e_var rfl h0))) ev_c (rv_eq rfl))) (by show decide (V.int 3 = V.int 2) = false; decide +kernel) fun H3 e3 => ?_
      have a1 := shr_dp f
      have a2 := shr_dp g
      exact b_ret e3 (e_call (ds := [.str o.w, (shr f).d, (shr g).d]) (K27.ea_cons (by walk_at "ed") (K27.ea_cons (e_call (ds := [f.d]) (K27.ea_cons (e_ixT (e_var rfl h0) (by walk_at "ev") at1) K27.ea_nil) ⟨f, rfl, hf.1, hd'.1, rfl⟩)
        (K27.ea_cons (e_call (ds := [g.d]) (K27.ea_cons (e_ixT (e_var rfl h0) (by walk_at "ev") at2) K27.ea_nil) ⟨g, rfl, hf.2, hd'.2, rfl⟩) K27.ea_nil))) ⟨o, shr f, shr g, rfl, ⟨shr_fine hf.1, by omega⟩, ⟨shr_fine hf.2, by omega⟩, rfl⟩) q
end
end K27

/-! K27: lassoproof/language/values.py. -/
namespace K27
open PySem PySem.Spec PyProof.Rows L2 Evl
local macro_rules | `(tactic| walk_at "ev") => `(tactic| first
  | exact ev_c
  | exact ev_var rfl
  | (refine' et_test ?h; (case h => walk_at "ev"))
  | (refine' et_B ?h; (case h => walk_at "ev"))
  | (refine' et_not ?h; (case h => walk_at "ev"))
  | (refine' et_and ?a (fun _ => ?b); (case a => walk_at "ev"); (case b => walk_at "ev"))
  | (refine' et_or ?a (fun _ => ?b); (case a => walk_at "ev"); (case b => walk_at "ev"))
  | (refine' ev_op ?a ?b (rv_eq ?c); (case a => walk_at "ev"); (case b => walk_at "ev"); (case c => rfl))
  | (refine' ev_op ?a ?b rv_I0; (case a => walk_at "ev"); (case b => walk_at "ev"))
  | (refine' ev_inU ?a ?b ?c ?d; (case a => walk_at "ev"); (case b => (refine' eu_tup ?x ?y; (case x => walk_at "ev"); (case y => decide))); (case c => rfl); (case d => rfl))
  | (refine' ev_str (e_ixT ?a ?b ?c); (case a => walk_at "ed"); (case b => walk_at "ev"); (case c => first | exact at0 | exact at1 | exact at2))
  | (refine' ev_int (e_ixT ?a ?b ?c); (case a => walk_at "ed"); (case b => walk_at "ev"); (case c => first | exact at0 | exact at1 | exact at2))
  | exact Evl.ea_nil
  | (refine' Evl.ea_cons ?a ?b; (case a => walk_at "ev"); (case b => walk_at "ev")))
local macro_rules | `(tactic| walk_at "ed") => `(tactic| first
  | exact e_var rfl (by assumption)
  | exact e_var rfl (by constructor)
  | exact K27.ea_nil
  | (refine' K27.ea_cons ?a ?b; (case a => walk_at "ed"); (case b => walk_at "ed"))
  | (refine' e_tup ?a ?b; (case a => walk_at "ed"); (case b => (simp only [List.length_cons, List.length_nil, List.length_append]; omega)))
  | (refine' e_ixT ?a ?b ?c; (case a => walk_at "ed"); (case b => walk_at "ev"); (case c => first | exact at0 | exact at1 | exact at2))
  | (refine' e_ev ?a ?b; (case a => walk_at "ev"); (case b => first | exact .str _ | exact .int _ | exact .bl _ | assumption)))
def isTupD : PyData → Bool
  | .tuple _ => true
  | _ => false
theorem giv_filter (ds : List PyData) (p : PyData → Bool) : giv ds.length (fun i => p (ds.getD i .none)) (fun i => ds.getD i .none) = ds.filter p := by
  have e : (List.range ds.length).map (fun i => ds.getD i .none) = ds := by
    apply List.ext_getElem
    · simp
    · intro i h1 h2
      simp at h1
      simp [h1]
  unfold giv
  conv => rhs; rw [← e, List.filter_map]
  rfl
theorem pls_at {ds : List PyData} (h : pls ds = true) : ∀ {i : Nat} {d : PyData}, ds[i]? = some d → pl d = true := by
  induction ds with
  | nil => intro i d e; simp at e
  | cons a r ih =>
    intro i d e
    have h' : (pl a && pls r) = true := h
    rw [Bool.and_eq_true] at h'
    cases i with
    | zero =>
      simp at e
      subst e
      exact h'.1
    | succ j => exact ih h'.2 (i := j) (by simpa using e)
mutual
theorem noL_of_pl : ∀ d : PyData, pl d = true → noL d = true
  | .none, _ => rfl
  | .bool _, _ => rfl
  | .int _, _ => rfl
  | .str _, _ => rfl
  | .tuple ds, h => noLs_of_pls ds h
  | .list _, h => nomatch h
  | .dict _, h => nomatch h
theorem noLs_of_pls : ∀ ds : List PyData, pls ds = true → noLs ds = true
  | [], _ => rfl
  | d :: ds, h => by
    have h' : (pl d && pls ds) = true := h
    rw [Bool.and_eq_true] at h'
    show (noL d && noLs ds) = true
    rw [noL_of_pl d h'.1, noLs_of_pls ds h'.2] <;> rfl
end
theorem pls_filter {p : PyData → Bool} : ∀ {ds : List PyData}, pls ds = true → pls (ds.filter p) = true
  | [], _ => rfl
  | d :: ds, h => by
    have h' : (pl d && pls ds) = true := h
    rw [Bool.and_eq_true] at h'
    rw [List.filter_cons]
    split
    · show (pl d && pls (ds.filter p)) = true
      rw [h'.1, pls_filter h'.2] <;> rfl
    · exact pls_filter h'.2
theorem getD_of {ds : List PyData} {i : Nat} {d : PyData} (h : ds[i]? = some d) : ds.getD i .none = d := by
  rw [List.getD_eq_getElem?_getD, h] <;> rfl
theorem pl_getD {ds : List PyData} (h : pls ds = true) (i : Nat) : noL (ds.getD i .none) = true := by
  cases e : ds[i]? with
  | none =>
    rw [List.getD_eq_getElem?_getD, e] <;> rfl
  | some d =>
    rw [getD_of e]
    exact noL_of_pl d (pls_at h e)
theorem ty_tup {d : PyData} (h : pl d = true) : kitB (tyN d) "tuple" = some (isTupD d) := by
  cases d with
  | none => decide +kernel
  | bool b => show kitB "bool" "tuple" = some false; decide +kernel
  | int i => show kitB "int" "tuple" = some false; decide +kernel
  | str x => show kitB "str" "tuple" = some false; decide +kernel
  | list x => cases h
  | tuple x => show kitB "tuple" "tuple" = some true; decide +kernel
  | dict x => cases h
/-! ### names: each part's, in turn, each once -/
def mrg (acc xs : List Str) : List Str := xs.foldl (fun a x => if x ∈ a then a else a ++ [x]) acc
theorem mrg_mem : ∀ {xs acc : List Str} {x : Str}, x ∈ mrg acc xs → x ∈ acc ∨ x ∈ xs
  | [], acc, x, h => .inl h
  | y :: r, acc, x, h => by
    have h' : x ∈ mrg (if y ∈ acc then acc else acc ++ [y]) r := h
    rcases mrg_mem h' with q | q
    · split at q
      · exact .inl q
      · rcases List.mem_append.mp q with q | q
        · exact .inl q
        · exact .inr (List.mem_cons.mpr (.inl (List.mem_singleton.mp q)))
    · exact .inr (List.mem_cons_of_mem _ q)
theorem mrg_len : ∀ (xs acc : List Str), (mrg acc xs).length ≤ acc.length + xs.length
  | [], acc => Nat.le_refl _
  | y :: r, acc => by
    have h := mrg_len r (if y ∈ acc then acc else acc ++ [y])
    show (mrg (if y ∈ acc then acc else acc ++ [y]) r).length ≤ acc.length + (r.length + 1)
    split at h
    · rename_i hy
      rw [if_pos hy]
      omega
    · rename_i hy
      rw [if_neg hy]
      simp at h
      omega
theorem mrg_snoc (acc xs : List Str) (x : Str) : mrg acc (xs ++ [x]) = if x ∈ mrg acc xs then mrg acc xs else mrg acc xs ++ [x] := by
  unfold mrg
  rw [List.foldl_append] <;> rfl
/-- what names_in hands back of a tree of depth at most n -/
def NR : Nat → PyData → List Str → Prop
  | 0, _, _ => False
  | n + 1, d, xs => (∃ w, d = .tuple [.str "name", .str w] ∧ xs = [w]) ∨
    ∃ (x : Str) (rest : List PyData) (xss : List (List Str)), d = .tuple (.str x :: rest) ∧ x ≠ "name" ∧ pls rest = true ∧ rest.length ≤ 2 ∧ Paired (NR n) (rest.filter isTupD) xss ∧ xs = xss.foldl mrg []
theorem NR.len : ∀ {n : Nat} {d : PyData} {xs : List Str}, NR n d xs → xs.length ≤ 2 ^ n
  | 0, _, _, h => h.elim
  | n + 1, d, xs, h => by
    rcases h with ⟨w, _, rfl⟩ | ⟨x, rest, xss, _, _, _, hl, hp, rfl⟩
    · exact Nat.one_le_two_pow
    · have h1 : (rest.filter isTupD).length ≤ 2 := Nat.le_trans (List.length_filter_le _ _) hl
      have h2 : 2 ^ (n + 1) = 2 ^ n + 2 ^ n := by rw [Nat.pow_succ]; omega
      rw [h2]
      generalize rest.filter isTupD = cs at hp h1
      cases hp with
      | nil => exact Nat.zero_le _
      | cons a r =>
        rename_i c xs1 cs1 xss1
        have a1 := NR.len a
        cases r with
        | nil =>
          have := mrg_len xs1 []
          show (mrg [] xs1).length ≤ _
          simp at this
          omega
        | cons a' r' =>
          rename_i c2 xs2 cs2 xss2
          have a2 := NR.len a'
          cases r' with
          | cons a'' r'' => simp at h1
          | nil =>
            have q1 := mrg_len xs1 []
            have q2 := mrg_len xs2 (mrg [] xs1)
            show (mrg (mrg [] xs1) xs2).length ≤ _
            simp at q1
            omega
section
variable {P : Program} {w : World} {K : PySem.W.Frag} {mg : Str → Option Value} {base : Heap}
/-! ### parts_of -/
abbrev s_parts_of : Stmt := topS 17
abbrev N_parts_of : List Str := ["tree", "part"]
theorem sc_parts_of : FnScope N_parts_of ["tree"] (defScope s_parts_of) := ⟨rfl, rfl, rfl, by decide +kernel, rfl, by decide +kernel, by decide +kernel⟩
def R_parts_of : List PyData → List PyData → Prop := fun ds es => ∃ (d0 : PyData) (rest : List PyData), ds = [.tuple (d0 :: rest)] ∧ pls rest = true ∧ rest.length ≤ 2 ∧ es = rest.filter isTupD
theorem ok_parts_of (Z_isinstance : mg "isinstance" = none) (Z_tuple : mg "tuple" = none) (D : Def K mg "parts_of" s_parts_of ["tree"]) : FnAt P w K mg base 1 "parts_of" ["tree"] (spN K R_parts_of) := by
  refine D.okN sc_parts_of (fun ds d ⟨d0, rest, h, _⟩ => by rw [h] <;> rfl) fun f0 cdv A outer s H vs Q E ds es hr hv hR q => ?_
  obtain ⟨d0, rest, rfl, hp, hl, rfl⟩ := hR
  obtain ⟨v0, rfl, h0⟩ := hv.i1
  refine ⟨_, (pss_one (ps_ret (pe_lc (own := [("part", 1)]) (g := gName 1) (tt := (tB (tCB (rIsi K) (tCons (tVar 1) (tCons (tC _) tNil))))) (te := (tVar 1)) (by rfl) sc_parts_of.nd (pi_tup (pe_slice sl_tupA (pv 0) (po_some pe_int) po_none)) (blkOk_by (N := N_parts_of) (own := [("part", 1)]) (sc := defScope s_parts_of) (by decide +kernel)) (fun _ _ _ _ _ => (pg_name (i := 1) sc_parts_of.nd rfl (by first | exact Or.inl rfl | exact Or.inr rfl))) (fun _ _ _ _ _ => pts_one (pt_val (pe_callB call_isi (by rfl) Z_isinstance bt_isinstance (pa_cons (pv 1) (pa_cons (pe_bltn (v := .ty "tuple") (by rfl) Z_tuple bt_tuple rfl) pa_nil))))) (fun _ _ _ _ _ => (pv 1))))), ?_⟩
  try dsimp only [cxOf]
  have e1 : cutD (d0 :: rest) (some 1) none = rest := by
    unfold cutD HT.sIx
    simp
  have hw : ¬ (HT.sIx (d0 :: rest).length 0 (some 1) = 0 ∧ HT.sIx (d0 :: rest).length (d0 :: rest).length none = (d0 :: rest).length) := by
    unfold HT.sIx
    simp
  have t1 : K27.E K (tSl (rSlA K) (tVar 0) (tPart (tC (.int 1))) tNoPart) (L2.start N_parts_of [v0]) H (.tuple rest) := e_is (e_slT (e_var rfl h0) (eo_some ev_c) eo_none hw) (by rw [e1])
  refine b_retL (Ex.refl H) ((l_lcT (fun i => isTupD (rest.getD i .none)) (fun i => rest.getD i .none) t1 (by omega) (pl_getD hp) (fun x => rfl) (fun i v d H1 e1 hd r => ?_) (fun i v d H1 e1 hd r _ => ?_)).is (giv_filter rest isTupD)) q
  · rw [getD_of hd]
    exact et_B (ev_isi (e_var rfl r) (fun kvs z => by subst z; exact absurd (pls_at hp hd) Bool.false_ne_true) (ty_tup (pls_at hp hd)))
  · rw [getD_of hd]
    exact e_var rfl r
/-! ### names_in -/
abbrev s_names_in : Stmt := topS 18
abbrev N_names_in : List Str := ["tree", "names", "part", "name"]
theorem sc_names_in : FnScope N_names_in ["tree"] (defScope s_names_in) := ⟨rfl, rfl, rfl, by decide +kernel, rfl, by decide +kernel, by decide +kernel⟩
def R_names_in (n : Nat) : List PyData → List PyData → Prop := fun ds es => ∃ (d : PyData) (xs : List Str), ds = [d] ∧ NR n d xs ∧ n ≤ 16 ∧ es = xs.map PyData.str
theorem pls_take : ∀ {ds : List PyData} (i : Nat), pls ds = true → pls (ds.take i) = true
  | [], i, _ => by simp; rfl
  | a :: r, 0, _ => rfl
  | a :: r, k + 1, h => by
    have h' : (pl a && pls r) = true := h
    rw [Bool.and_eq_true] at h'
    show (pl a && pls (r.take k)) = true
    rw [h'.1, pls_take k h'.2] <;> rfl
theorem paired_take {α β : Type} {F : α → β → Prop} : ∀ {xs : List α} {ys : List β} (i : Nat), Paired F xs ys → Paired F (xs.take i) (ys.take i)
  | _, _, 0, _ => .nil
  | _, _, _ + 1, .nil => .nil
  | _, _, i + 1, .cons a r => .cons a (paired_take i r)
theorem inV_strs (nm : Str) : ∀ acc : List Str, inV (.str nm) (acc.map V.str) = decide (nm ∈ acc)
  | [] => rfl
  | a :: r => by
    show (eqV (.str a) (.str nm) || inV (.str nm) (r.map V.str)) = _
    rw [inV_strs nm r]
    show ((a == nm) || decide (nm ∈ r)) = _
    by_cases h : a = nm
    · subst h; simp
    · have h' : ¬ nm = a := fun z => h z.symm
      simp [h, h']
/-- the names gathered so far: l holds them -/
theorem take_snoc {α : Type} {xs : List α} {i : Nat} {x : α} (h : xs[i]? = some x) : xs.take (i + 1) = xs.take i ++ [x] := by
  obtain ⟨h1, rfl⟩ := List.getElem?_eq_some_iff.mp h
  rw [List.take_add_one, List.getElem?_eq_getElem h1] <;> rfl
theorem ok_names_in (G_parts_of : FnAt P w K mg base 1 "parts_of" ["tree"] (spN K R_parts_of)) (D : Def K mg "names_in" s_names_in ["tree"]) : ∀ n : Nat, FnAt P w K mg base (n + 1) "names_in" ["tree"] (spN K (R_names_in n))
  | 0 => FnAt.none D fun vs H Q E h => by
    obtain ⟨ds, es, _, ⟨d, xs, _, h, _⟩, _⟩ := h
    exact h
  | n + 1 => by
    have G_names_in := ok_names_in G_parts_of D n
    refine D.okN sc_names_in (fun ds d ⟨d, xs, h, _⟩ => by rw [h] <;> rfl) fun f0 cdv A outer s H vs Q E ds es hr hv hR q => ?_
    obtain ⟨d, xs, rfl, hn, hn16, rfl⟩ := hR
    obtain ⟨v0, rfl, h0⟩ := hv.i1
    refine ⟨_, (pss_cons (ps_if (pt_cmpR op_eq (pe_ix ix_tup (pv 0) pe_int (fun _ _ => rfl)) pe_str (nomark _)) (pss_one (ps_ret (pe_lst (pa_cons (pe_ix ix_tup (pv 0) pe_int (fun _ _ => rfl)) pa_nil)))) pss_nil)
      (pss_cons (ps_set (i := 1) sc_names_in.nd rfl (by first | exact Or.inl rfl | exact Or.inr rfl) (pe_lst pa_nil))
      (pss_cons (ps_for PassesOwn.never rfl (pi_list (pe_callX G_parts_of hr (pa_cons (pv 0) pa_nil))) (pg_name (i := 2) sc_names_in.nd rfl (by first | exact Or.inl rfl | exact Or.inr rfl)) (pss_one (ps_for PassesOwn.never rfl (pi_list (pe_callX G_names_in hr (pa_cons (pv 2) pa_nil))) (pg_name (i := 3) sc_names_in.nd rfl (by first | exact Or.inl rfl | exact Or.inr rfl)) (pss_one (ps_if (pt_cmpR op_notIn_seq (pv 3) (pv 1) (by rfl)) (pss_one (ps_expr (pe_bm PySem.F.plainAttrs_list PySem.F.slot_list_append PySem.F.type_list_append mt_append (pv 1) (pa_cons (pv 3) pa_nil)))) pss_nil)))))
      (pss_one (ps_ret (pv 1)))))), ?_⟩
    try dsimp only [cxOf]
    have hlen := hn.len
    have hpow : 2 ^ (n + 1) ≤ 2 ^ 16 := Nat.pow_le_pow_right (by decide) hn16
    rcases hn with ⟨w, rfl, rfl⟩ | ⟨x, rest, xss, rfl, hx, hp, hl, hpr, rfl⟩
    · refine b_yes (Ex.refl H) (by walk_at "ev") (by decide +kernel) fun H1 e1 => ?_
      exact b_retL e1 (l_lst (ds := [.str w]) (by walk_at "ed") (by simp)) fun p xs H2 hp e2 => q p xs H2 (fresh_back e1 hp) e2
    refine b_skip (Ex.refl H) (by walk_at "ev") (decide_eq_false fun z => hx (V.str.inj z)) fun H1 e1 => ?_
    refine b_asgL e1 (l_lst (K := K) K27.ea_nil (by simp)) fun l xs0 H2 hl2 e2 h2 r2 => ?_
    cases r2
    have hlf : H l = none := fresh_back e1 hl2
    -- the parts
    refine b_forL e2 (l_call (ds := [.tuple (.str x :: rest)]) (K27.ea_cons (e_var rfl h0) K27.ea_nil) ⟨_, rest, rfl, hp, hl, rfl⟩) (fun p vs i σ' H' => (∃ o2 o3, σ' = [some v0, some (.ref l), o2, o3]) ∧ H l = none ∧ H p = none ∧ p ≠ l ∧ Ex H H' ∧ H' p = some (.lst vs) ∧ DaAll K H' vs (rest.filter isTupD) ∧ H' l = some (.lst (((xss.take i).foldl mrg []).map V.str)))
      (fun p vs H3 hp3 e3 h3 r3 => ⟨⟨none, none, rfl⟩, hlf, fresh_back e2 hp3, fun z => (by rw [z, h2] at hp3; cases hp3), e2.trans e3, h3, r3, e3 _ _ h2⟩) (fun p vs i σ' H' h => h.2.2.2.2.2.1) ?_ ?_
    · rintro p vs i y d σ' H' hlen' hy hd ⟨⟨o2, o3, rfl⟩, q1, q2, q3, q4, q5, q6, q7⟩
      obtain ⟨ys, hys, hNR⟩ := paired_get hpr hd
      obtain ⟨d', hd', rd⟩ := q6.get hy
      rw [hd] at hd'
      cases hd'
      -- its names
      refine b_forL1 (Ex.refl H') (l_call (ds := [d]) (K27.ea_cons (e_var rfl rd) K27.ea_nil) ⟨d, ys, rfl, hNR, by omega, rfl⟩) (fun p2 vs2 j σ2 H3 => (∃ o3, σ2 = [some v0, some (.ref l), some y, o3]) ∧ p2 ≠ l ∧ Ex H H3 ∧ H3 p = some (.lst vs) ∧ DaAll K H3 vs (rest.filter isTupD) ∧ H3 p2 = some (.lst vs2) ∧ vs2 = ys.map V.str ∧ H3 l = some (.lst ((mrg ((xss.take i).foldl mrg []) (ys.take j)).map V.str)))
        (fun p2 vs2 H3 hp3 e3 h3 r3 => ⟨⟨o3, rfl⟩, fun z => (by rw [z, q7] at hp3; cases hp3), q4.trans e3, e3 _ _ q5, q6.mono e3, h3, r3.strs, e3 _ _ q7⟩) (fun p2 vs2 j σ2 H3 h => h.2.2.2.2.2.1) ?_ ?_
      · rintro p2 vs2 j z d2 σ2 H3 hl2' hz hd2 ⟨⟨o3, rfl⟩, t1, t2, t3, t4, t5, rfl, t7⟩
        rw [List.getElem?_map] at hz
        cases hyj : ys[j]? with
        | none =>
          rw [hyj] at hz
          cases hz
        | some nm =>
          rw [hyj] at hz
          cases hz
          have lenb : (mrg ((xss.take i).foldl mrg []) (ys.take j)).length < 100000 := by
            have a1 := mrg_len (ys.take j) ((xss.take i).foldl mrg [])
            have a2 : (ys.take j).length ≤ 2 ^ n := Nat.le_trans (List.length_take_le' _ _) hNR.len
            have a3 : ((xss.take i).foldl mrg []).length ≤ 2 ^ (n + 1) := by
              have g : NR (n + 1) (.tuple (.str x :: ((rest.filter isTupD).take i))) ((xss.take i).foldl mrg []) := by
                refine .inr ⟨x, (rest.filter isTupD).take i, xss.take i, rfl, hx, ?_, ?_, ?_, rfl⟩
                · exact pls_take i (pls_filter hp)
                · exact Nat.le_trans (List.length_take_le' _ _) (Nat.le_trans (List.length_filter_le _ _) hl)
                · have e : ((rest.filter isTupD).take i).filter isTupD = (rest.filter isTupD).take i := by
                    rw [List.filter_eq_self]
                    intro a ha
                    exact (List.mem_filter.mp (List.mem_of_mem_take ha)).2
                  rw [e]
                  exact paired_take i hpr
              exact g.len
            have a4 : 2 ^ n ≤ 2 ^ (n + 1) := Nat.pow_le_pow_right (by decide) (by omega)
            have a5 : (2 : Nat) ^ 16 = 65536 := by decide
            omega
          have allf : (((mrg ((xss.take i).foldl mrg []) (ys.take j)).map V.str).all flatV) = true := by
            rw [List.all_map]
            exact List.all_eq_true.mpr fun _ _ => rfl
          have ein : inV (.str nm) ((mrg ((xss.take i).foldl mrg []) (ys.take j)).map V.str) = decide (nm ∈ mrg ((xss.take i).foldl mrg []) (ys.take j)) := inV_strs _ _
          have sn := mrg_snoc ((xss.take i).foldl mrg []) (ys.take j) nm
          rw [← take_snoc hyj] at sn
          show tIfS _ _ _ _ [some v0, some (.ref l), some y, some (.str nm)] H3
          refine b_when1 (Ex.refl H3) (et_test (ev_op (ev_var rfl) (ev_var rfl) (rv_niL (sq_of t7) rfl allf))) (fun hb H4 e4 => ?_) fun hb H4 e4 => ?_
          · rw [ein] at hb
            have hnot : ¬ nm ∈ mrg ((xss.take i).foldl mrg []) (ys.take j) := by
              intro z
              rw [decide_eq_true z] at hb
              cases hb
            rw [if_neg hnot] at sn
            refine b_app1 (e4 _ _ t7) (ev_var rfl) (e_var rfl (.str nm)) (by rw [List.length_map]; exact lenb) fun v H5 e5 rv => ?_
            cases rv
            have m : NEx H5 (upd H5 l (.lst ((mrg ((xss.take i).foldl mrg []) (ys.take j)).map V.str ++ [.str nm]))) := NEx.upd (e5 _ _ (e4 _ _ t7))
            refine ⟨⟨_, rfl⟩, t1, Ex.mut ((t2.trans e4).trans e5) q1, ?_, ?_, ?_, rfl, ?_⟩
            · rw [upd_ne q3]
              exact e5 _ _ (e4 _ _ t3)
            · exact (t4.mono (e4.trans e5)).tmono m (noLs_of_pls _ (pls_filter hp))
            · rw [upd_ne t1]
              exact e5 _ _ (e4 _ _ t5)
            · rw [sn, List.map_append, upd_same] <;> rfl
          · rw [ein] at hb
            have hin : nm ∈ mrg ((xss.take i).foldl mrg []) (ys.take j) := by
              by_cases z : nm ∈ mrg ((xss.take i).foldl mrg []) (ys.take j)
              · exact z
              · rw [decide_eq_false z] at hb
                cases hb
            rw [if_pos hin] at sn
            refine ⟨⟨_, rfl⟩, t1, t2.trans e4, e4 _ _ t3, t4.mono e4, e4 _ _ t5, rfl, ?_⟩
            rw [sn]
            exact e4 _ _ t7
      · rintro p2 vs2 σ2 H3 ⟨⟨o3, rfl⟩, t1, t2, t3, t4, t5, t6, t7⟩
        refine ⟨⟨_, _, rfl⟩, q1, q2, q3, t2, t3, t4, ?_⟩
        have el : (ys.map PyData.str).length = ys.length := List.length_map _
        rw [el, List.take_length] at t7
        rw [take_snoc hys, List.foldl_append]
        exact t7
    · rintro p vs σ' H' ⟨⟨o2, o3, rfl⟩, q1, q2, q3, q4, q5, q6, q7⟩
      have el : (rest.filter isTupD).length = xss.length := Paired.length hpr
      rw [el, List.take_length] at q7
      exact ⟨_, rfl, q l _ H' q1 q4 q7 (DaAll.ofStrs _)⟩
/-! ### term_value -/
/-- the env tells the names' values, none of them too great -/
def EnvOf (N : List Str) (es : List (Str × Int)) (r : Str → Int) : Prop := ∀ w ∈ N, es.lookup w = some (r w) ∧ -(2 ^ 64) < r w ∧ r w < 2 ^ 64
abbrev s_term_value : Stmt := topS 19
abbrev N_term_value : List Str := ["term", "values", "word", "first", "second"]
theorem sc_term_value : FnScope N_term_value ["term", "values"] (defScope s_term_value) := ⟨rfl, rfl, rfl, by decide +kernel, rfl, by decide +kernel, by decide +kernel⟩
def R_term_value (N : List Str) (n : Nat) : Rl := fun ds d => ∃ (t : Tm) (es : List (Str × Int)) (r : Str → Int), ds = [t.d, envD es] ∧ t.fine N ∧ t.dp ≤ n ∧ EnvOf N es r ∧ d = .int (t.val r)
theorem tdp_pos (t : Tm) : 1 ≤ t.dp := by cases t <;> simp [Tm.dp]
theorem ok_term_value {N : List Str} (Z_min : mg "min" = none) (Z_max : mg "max" = none) (D : Def K mg "term_value" s_term_value ["term", "values"]) : ∀ n : Nat, FnAt P w K mg base (n + 1) "term_value" ["term", "values"] (spR K (R_term_value N n))
  | 0 => FnAt.none D fun vs H Q E h => by
    obtain ⟨ds, es, _, ⟨t, _, _, _, _, h, _⟩, _⟩ := h
    have := tdp_pos t
    omega
  | n + 1 => by
    have G_term_value := ok_term_value (N := N) Z_min Z_max D n
    refine D.ok sc_term_value (fun ds d ⟨t, es, r, h, _⟩ => by rw [h] <;> rfl) fun f0 cdv A outer s H vs Q E ds d hr hv hR q => ?_
    obtain ⟨t, es, r, rfl, hf, hd, henv, rfl⟩ := hR
    obtain ⟨v0, v1, rfl, h0, h1⟩ := hv.i2
    refine ⟨_, (pss_cons (ps_set (i := 2) sc_term_value.nd rfl (by first | exact Or.inl rfl | exact Or.inr rfl) (pe_ix ix_tup (pv 0) pe_int (fun _ _ => rfl)))
      (pss_cons (ps_if (pt_cmpR op_eq (pv 2) pe_str (nomark _)) (pss_one (ps_ret (pe_ix ix_tup (pv 0) pe_int (fun _ _ => rfl)))) pss_nil)
      (pss_cons (ps_if (pt_cmpR op_eq (pv 2) pe_str (nomark _)) (pss_one (ps_ret (pe_dget (hu_of hr) (pv 1) (pe_ix ix_tup (pv 0) pe_int (fun _ _ => rfl)) (fun _ _ => rfl)))) pss_nil)
      (pss_cons (ps_set (i := 3) sc_term_value.nd rfl (by first | exact Or.inl rfl | exact Or.inr rfl) (pe_callX G_term_value hr (pa_cons (pe_ix ix_tup (pv 0) pe_int (fun _ _ => rfl)) (pa_cons (pv 1) pa_nil))))
      (pss_cons (ps_if (pt_cmpR op_eq (pv 2) pe_str (nomark _)) (pss_one (ps_ret (pe_un un_neg (pv 3)))) pss_nil)
      (pss_cons (ps_if (pt_cmpR op_eq (pv 2) pe_str (nomark _)) (pss_one (ps_ret (pe_op op_fdiv (pv 3) (pe_ix ix_tup (pv 0) pe_int (fun _ _ => rfl))))) pss_nil)
      (pss_cons (ps_if (pt_cmpR op_eq (pv 2) pe_str (nomark _)) (pss_one (ps_ret (pe_op op_mod (pv 3) (pe_ix ix_tup (pv 0) pe_int (fun _ _ => rfl))))) pss_nil)
      (pss_cons (ps_set (i := 4) sc_term_value.nd rfl (by first | exact Or.inl rfl | exact Or.inr rfl) (pe_callX G_term_value hr (pa_cons (pe_ix ix_tup (pv 0) pe_int (fun _ _ => rfl)) (pa_cons (pv 1) pa_nil))))
      (pss_cons (ps_if (pt_cmpR op_eq (pv 2) pe_str (nomark _)) (pss_one (ps_ret (pe_op op_add (pv 3) (pv 4)))) pss_nil)
      (pss_cons (ps_if (pt_cmpR op_eq (pv 2) pe_str (nomark _)) (pss_one (ps_ret (pe_op op_sub (pv 3) (pv 4)))) pss_nil)
      (pss_cons (ps_if (pt_cmpR op_eq (pv 2) pe_str (nomark _)) (pss_one (ps_ret (pe_op op_mul (pv 3) (pv 4)))) pss_nil)
      (pss_cons (ps_if (pt_cmpR op_eq (pv 2) pe_str (nomark _)) (pss_one (ps_ret (pe_callB (call_minS rfl) (by rfl) Z_min bt_min (pa_cons (pv 3) (pa_cons (pv 4) pa_nil))))) pss_nil)
      (pss_one (ps_ret (pe_callB (call_maxS rfl) (by rfl) Z_max bt_max (pa_cons (pv 3) (pa_cons (pv 4) pa_nil))))))))))))))))), ?_⟩
    try dsimp only [cxOf]
    cases t with
    | num i =>
      refine b_asg (Ex.refl H) (by walk_at "ev") fun H1 e1 => ?_
      refine b_yes e1 (by walk_at "ev") (by decide +kernel) fun H2 e2 => ?_
      exact b_ret e2 (e_ixT (e_var rfl h0) ev_c at1) q
    | nm x =>
      refine b_asg (Ex.refl H) (by walk_at "ev") fun H1 e1 => ?_
      refine b_skip e1 (by walk_at "ev") (by decide +kernel) fun H2 e2 => ?_
      refine b_yes e2 (by walk_at "ev") (by decide +kernel) fun H3 e3 => ?_
      exact b_ret e3 (e_int (e_env (e_var rfl h1) (by walk_at "ev") (henv x hf).1)) q
    | neg t =>
      have hd' : t.dp ≤ n := Nat.le_of_succ_le_succ hd
      refine b_asg (Ex.refl H) (by walk_at "ev") fun H1 e1 => ?_
      refine b_skip e1 (by walk_at "ev") (by decide +kernel) fun H2 e2 => ?_
      refine b_skip e2 (by walk_at "ev") (by decide +kernel) fun H3 e3 => ?_
      refine b_asg e3 (ev_int (e_call (ds := [t.d, envD es]) (K27.ea_cons (e_ixT (e_var rfl h0) ev_c at1) (K27.ea_cons (e_var rfl h1) K27.ea_nil)) ⟨t, es, r, rfl, hf, hd', henv, rfl⟩)) fun H4 e4 => ?_
      refine b_yes e4 (by walk_at "ev") (by decide +kernel) fun H5 e5 => ?_
      exact b_ret e5 (e_int (ev_neg (ev_var rfl))) q
    | opk o t k =>
      have hd' : t.dp ≤ n := Nat.le_of_succ_le_succ hd
      refine b_asg (Ex.refl H) (by walk_at "ev") fun H1 e1 => ?_
      refine b_skip e1 (by walk_at "ev") (by cases o <;> decide +kernel) fun H2 e2 => ?_
      refine b_skip e2 (by walk_at "ev") (by cases o <;> decide +kernel) fun H3 e3 => ?_
      refine b_asg e3 (ev_int (e_call (ds := [t.d, envD es]) (K27.ea_cons (e_ixT (e_var rfl h0) ev_c at1) (K27.ea_cons (e_var rfl h1) K27.ea_nil)) ⟨t, es, r, rfl, hf.1, hd', henv, rfl⟩)) fun H4 e4 => ?_
      refine b_skip e4 (by walk_at "ev") (by cases o <;> decide +kernel) fun H5 e5 => ?_
      cases o with
      | quo =>
        refine b_yes e5 (by walk_at "ev") (by decide +kernel) fun H6 e6 => ?_
        exact b_ret e6 (e_int (ev_op (ev_var rfl) (ev_int (e_ixT (e_var rfl h0) ev_c at2)) (rv_I ⟨hf.2.1, by have := hf.2.2; omega⟩))) q
      | rem =>
        refine b_skip e5 (by walk_at "ev") (by decide +kernel) fun H6 e6 => ?_
        refine b_yes e6 (by walk_at "ev") (by decide +kernel) fun H7 e7 => ?_
        exact b_ret e7 (e_int (ev_op (ev_var rfl) (ev_int (e_ixT (e_var rfl h0) ev_c at2)) (rv_I hf.2.1))) q
    | op2 o t u =>
      have hd' : t.dp ≤ n ∧ u.dp ≤ n := by
        have : max t.dp u.dp + 1 ≤ n + 1 := hd
        omega
      refine b_asg (Ex.refl H) (by walk_at "ev") fun H1 e1 => ?_
      refine b_skip e1 (by walk_at "ev") (by cases o <;> decide +kernel) fun H2 e2 => ?_
      refine b_skip e2 (by walk_at "ev") (by cases o <;> decide +kernel) fun H3 e3 => ?_
      refine b_asg e3 (ev_int (e_call (ds := [t.d, envD es]) (K27.ea_cons (e_ixT (e_var rfl h0) ev_c at1) (K27.ea_cons (e_var rfl h1) K27.ea_nil)) ⟨t, es, r, rfl, hf.1, hd'.1, henv, rfl⟩)) fun H4 e4 => ?_
      refine b_skip e4 (by walk_at "ev") (by cases o <;> decide +kernel) fun H5 e5 => ?_
      refine b_skip e5 (by walk_at "ev") (by cases o <;> decide +kernel) fun H6 e6 => ?_
      refine b_skip e6 (by walk_at "ev") (by cases o <;> decide +kernel) fun H7 e7 => ?_
      refine b_asg e7 (ev_int (e_call (ds := [u.d, envD es]) (K27.ea_cons (e_ixT (e_var rfl h0) ev_c at2) (K27.ea_cons (e_var rfl h1) K27.ea_nil)) ⟨u, es, r, rfl, hf.2.1, hd'.2, henv, rfl⟩)) fun H8 e8 => ?_
      refine b_when e8 (by walk_at "ev") (fun b1 H9 e9 => ?_) fun b1 H9 e9 => ?_
      · obtain rfl : o = .plus := by cases o <;> first | rfl | exact absurd b1 (by decide +kernel)
        exact b_ret e9 (e_int (ev_op (ev_var rfl) (ev_var rfl) rv_I0)) q
      refine b_when e9 (by walk_at "ev") (fun b2 H10 e10 => ?_) fun b2 H10 e10 => ?_
      · obtain rfl : o = .minus := by cases o <;> first | rfl | exact absurd b2 (by decide +kernel)
        exact b_ret e10 (e_int (ev_op (ev_var rfl) (ev_var rfl) rv_I0)) q
      refine b_when e10 (by walk_at "ev") (fun b3 H11 e11 => ?_) fun b3 H11 e11 => ?_
      · obtain rfl : o = .times := by cases o <;> first | rfl | exact absurd b3 (by decide +kernel)
        obtain ⟨x, rfl⟩ := hf.2.2 rfl
        exact b_ret e11 (e_int (ev_op (ev_var rfl) (ev_var rfl) (rv_I (.inl (henv x hf.1).2)))) q
      refine b_when e11 (by walk_at "ev") (fun b4 H12 e12 => ?_) fun b4 H12 e12 => ?_
      · obtain rfl : o = .least := by cases o <;> first | rfl | exact absurd b4 (by decide +kernel)
        exact b_ret e12 (e_int (ev_min2 (ev_var rfl) (ev_var rfl))) q
      · obtain rfl : o = .most := by cases o <;> first | rfl | exact absurd b1 (by decide +kernel) | exact absurd b2 (by decide +kernel) | exact absurd b3 (by decide +kernel) | exact absurd b4 (by decide +kernel)
        exact b_ret e12 (e_int (ev_max2 (ev_var rfl) (ev_var rfl))) q
/-! ### comparison_truth, condition_truth -/
abbrev s_comparison_truth : Stmt := topS 20
abbrev N_comparison_truth : List Str := ["condition", "values", "first", "second"]
theorem sc_comparison_truth : FnScope N_comparison_truth ["condition", "values"] (defScope s_comparison_truth) := ⟨rfl, rfl, rfl, by decide +kernel, rfl, by decide +kernel, by decide +kernel⟩
def R_comparison_truth (N : List Str) : Rl := fun ds d => ∃ (c : Cm) (t u : Tm) (es : List (Str × Int)) (r : Str → Int), ds = [(Fm.cmp c t u).d, envD es] ∧ (Fm.cmp c t u).fine N ∧ EnvOf N es r ∧ d = .bool (c.ap (t.val r) (u.val r))
theorem dec_int2 {i j : Int} : decide (V.int i = V.int j) = decide (i = j) := by
  by_cases h : i = j
  · subst h; simp
  · rw [decide_eq_false h, decide_eq_false fun z => h (V.int.inj z)]
theorem ok_comparison_truth {N : List Str} (G_term_value : FnAt P w K mg base 4 "term_value" ["term", "values"] (spR K (R_term_value N 3))) (D : Def K mg "comparison_truth" s_comparison_truth ["condition", "values"]) :
    FnAt P w K mg base 5 "comparison_truth" ["condition", "values"] (spR K (R_comparison_truth N)) := by
  refine D.ok sc_comparison_truth (fun ds d ⟨c, t, u, es, r, h, _⟩ => by rw [h] <;> rfl) fun f0 cdv A outer s H vs Q E ds d hr hv hR q => ?_
  obtain ⟨c, t, u, es, r, rfl, hf, henv, rfl⟩ := hR
  obtain ⟨v0, v1, rfl, h0, h1⟩ := hv.i2
  refine ⟨_, (pss_cons (ps_set (i := 2) sc_comparison_truth.nd rfl (by first | exact Or.inl rfl | exact Or.inr rfl) (pe_callX G_term_value hr (pa_cons (pe_ix ix_tup (pv 0) pe_int (fun _ _ => rfl)) (pa_cons (pv 1) pa_nil))))
      (pss_cons (ps_set (i := 3) sc_comparison_truth.nd rfl (by first | exact Or.inl rfl | exact Or.inr rfl) (pe_callX G_term_value hr (pa_cons (pe_ix ix_tup (pv 0) pe_int (fun _ _ => rfl)) (pa_cons (pv 1) pa_nil))))
      (pss_cons (ps_if (pt_cmpR op_eq (pe_ix ix_tup (pv 0) pe_int (fun _ _ => rfl)) pe_str (nomark _)) (pss_one (ps_ret (pe_cmpR op_eq (pv 2) (pv 3) (nomark _)))) pss_nil)
      (pss_cons (ps_if (pt_cmpR op_eq (pe_ix ix_tup (pv 0) pe_int (fun _ _ => rfl)) pe_str (nomark _)) (pss_one (ps_ret (pe_cmpR op_lt (pv 2) (pv 3) (nomark _)))) pss_nil)
      (pss_one (ps_ret (pe_cmpR op_le (pv 2) (pv 3) (nomark _)))))))), ?_⟩
  try dsimp only [cxOf]
  refine b_asg (Ex.refl H) (ev_int (e_call (ds := [t.d, envD es]) (K27.ea_cons (e_ixT (e_var rfl h0) ev_c at1) (K27.ea_cons (e_var rfl h1) K27.ea_nil)) ⟨t, es, r, rfl, hf.1.1, hf.1.2, henv, rfl⟩)) fun H1 e1 => ?_
  refine b_asg e1 (ev_int (e_call (ds := [u.d, envD es]) (K27.ea_cons (e_ixT (e_var rfl h0) ev_c at2) (K27.ea_cons (e_var rfl h1) K27.ea_nil)) ⟨u, es, r, rfl, hf.2.1, hf.2.2, henv, rfl⟩)) fun H2 e2 => ?_
  refine b_when e2 (by walk_at "ev") (fun b1 H3 e3 => ?_) fun b1 H3 e3 => ?_
  · obtain rfl : c = .eq := by cases c <;> first | rfl | exact absurd b1 (by decide +kernel)
    refine b_ret e3 (e_bl (ev_is (ev_op (ev_var rfl) (ev_var rfl) (rv_eq rfl)) ?_)) q
    rw [dec_int2] <;> rfl
  refine b_when e3 (by walk_at "ev") (fun b2 H4 e4 => ?_) fun b2 H4 e4 => ?_
  · obtain rfl : c = .lt := by cases c <;> first | rfl | exact absurd b2 (by decide +kernel)
    exact b_ret e4 (e_bl (ev_op (ev_var rfl) (ev_var rfl) rv_I0)) q
  · obtain rfl : c = .le := by cases c <;> first | rfl | exact absurd b1 (by decide +kernel) | exact absurd b2 (by decide +kernel)
    exact b_ret e4 (e_bl (ev_op (ev_var rfl) (ev_var rfl) rv_I0)) q
abbrev s_condition_truth : Stmt := topS 21
abbrev N_condition_truth : List Str := ["condition", "values", "word", "first", "second"]
theorem sc_condition_truth : FnScope N_condition_truth ["condition", "values"] (defScope s_condition_truth) := ⟨rfl, rfl, rfl, by decide +kernel, rfl, by decide +kernel, by decide +kernel⟩
theorem ok_condition_truth {N : List Str} (G_comparison_truth : FnAt P w K mg base 5 "comparison_truth" ["condition", "values"] (spR K (R_comparison_truth N))) (D : Def K mg "condition_truth" s_condition_truth ["condition", "values"]) :
    FnAt P w K mg base 6 "condition_truth" ["condition", "values"] (spR K (R_comparison_truth N)) := by
  have G_condition_truth : FnAt P w K mg base 0 "condition_truth" ["condition", "values"] (spR K fun _ _ => False) := FnAt.none D fun vs H Q E ⟨ds, d, _, h, _⟩ => h
  refine D.ok sc_condition_truth (fun ds d ⟨c, t, u, es, r, h, _⟩ => by rw [h] <;> rfl) fun f0 cdv A outer s H vs Q E ds d hr hv hR q => ?_
  obtain ⟨c, t, u, es, r, rfl, hf, henv, rfl⟩ := hR
  obtain ⟨v0, v1, rfl, h0, h1⟩ := hv.i2
  refine ⟨_, (pss_cons (ps_set (i := 2) sc_condition_truth.nd rfl (by first | exact Or.inl rfl | exact Or.inr rfl) (pe_ix ix_tup (pv 0) pe_int (fun _ _ => rfl)))
      (pss_cons (ps_if (PW.pt (pw_or (pt_cmpR op_eq (pv 2) pe_str (nomark _)) (pw_or1 (pt_cmpR op_eq (pv 2) pe_str (nomark _))))) (pss_one (ps_ret (pe_cmpR op_eq (pv 2) pe_str (nomark _)))) pss_nil)
      (pss_cons (ps_if (PW.pt (pw_or (pt_cmpR op_eq (pv 2) pe_str (nomark _)) (pw_or (pt_cmpR op_eq (pv 2) pe_str (nomark _)) (pw_or1 (pt_cmpR op_eq (pv 2) pe_str (nomark _)))))) (pss_one (ps_ret (pe_callX G_comparison_truth hr (pa_cons (pv 0) (pa_cons (pv 1) pa_nil))))) pss_nil)
      (pss_cons (ps_set (i := 3) sc_condition_truth.nd rfl (by first | exact Or.inl rfl | exact Or.inr rfl) (pe_callX G_condition_truth hr (pa_cons (pe_ix ix_tup (pv 0) pe_int (fun _ _ => rfl)) (pa_cons (pv 1) pa_nil))))
      (pss_cons (ps_if (pt_cmpR op_eq (pv 2) pe_str (nomark _)) (pss_one (ps_ret (pe_not (pv 3)))) pss_nil)
      (pss_cons (ps_set (i := 4) sc_condition_truth.nd rfl (by first | exact Or.inl rfl | exact Or.inr rfl) (pe_callX G_condition_truth hr (pa_cons (pe_ix ix_tup (pv 0) pe_int (fun _ _ => rfl)) (pa_cons (pv 1) pa_nil))))
      (pss_cons (ps_if (pt_cmpR op_eq (pv 2) pe_str (nomark _)) (pss_one (ps_ret (pe_and (pv 3) (pe_one (pv 4))))) pss_nil)
      (pss_cons (ps_if (pt_cmpR op_eq (pv 2) pe_str (nomark _)) (pss_one (ps_ret (pe_or (pv 3) (pe_one (pv 4))))) pss_nil)
      (pss_cons (ps_if (pt_cmpR op_eq (pv 2) pe_str (nomark _)) (pss_one (ps_ret (pe_or (pe_not (pv 3)) (pe_one (pv 4))))) pss_nil)
      (pss_one (ps_ret (pe_cmpR op_eq (pv 3) (pv 4) (nomark _))))))))))))), ?_⟩
  try dsimp only [cxOf]
  refine b_asg (Ex.refl H) (by walk_at "ev") fun H1 e1 => ?_
  refine b_skip e1 (by walk_at "ev") (by cases c <;> decide +kernel) fun H2 e2 => ?_
  refine b_yes e2 (by walk_at "ev") (by cases c <;> decide +kernel) fun H3 e3 => ?_
  exact b_ret e3 (e_call (ds := [(Fm.cmp c t u).d, envD es]) (K27.ea_cons (e_var rfl h0) (K27.ea_cons (e_var rfl h1) K27.ea_nil)) ⟨c, t, u, es, r, rfl, hf, henv, rfl⟩) q
end
end K27

/-! K27, plain mathematics 3: the book of rows and facts. -/
namespace K27
open PySem
abbrev Rw := Str × Int × Int
def rTT : Rw := ("true", -1, -1)
def rFF : Rw := ("false", -1, -1)
def ixR (rows : List Rw) (r : Rw) : Nat := rows.idxOf r
def ixF (facts : List Fm) (c : Fm) : Nat := facts.idxOf c
structure Bk where
  facts : List Fm
  rows : List Rw
def Bk.put (B : Bk) (r : Rw) : Bk := if r ∈ B.rows then B else { facts := B.facts, rows := B.rows ++ [r] }
def Bk.putFact (B : Bk) (c : Fm) : Bk := if c ∈ B.facts then B else { facts := B.facts ++ [c], rows := B.rows }
def factRow (B : Bk) (c : Fm) : Rw := ("fact", ((ixF B.facts c : Nat) : Int), -1)
def Bk.fact (B : Bk) (c : Fm) : Bk × Nat := ((B.putFact c).put (factRow B c), ixR B.rows (factRow B c))
def Bk.fm : Fm → Bk → Bk × Nat
  | .tt, B => (B.put rTT, ixR B.rows rTT)
  | .ff, B => (B.put rFF, ixR B.rows rFF)
  | .cmp c t u, B => B.fact (.cmp c t u)
  | .un o f, B => ((Bk.fm f B).1.put (o.w, (((Bk.fm f B).2 : Nat) : Int), -1), ixR (Bk.fm f B).1.rows (o.w, (((Bk.fm f B).2 : Nat) : Int), -1))
  | .bi o f g, B => ((Bk.fm g (Bk.fm f B).1).1.put (o.w, (((Bk.fm f B).2 : Nat) : Int), (((Bk.fm g (Bk.fm f B).1).2 : Nat) : Int)), ixR (Bk.fm g (Bk.fm f B).1).1.rows (o.w, (((Bk.fm f B).2 : Nat) : Int), (((Bk.fm g (Bk.fm f B).1).2 : Nat) : Int)))
def Fm.sz : Fm → Nat
  | .tt => 1
  | .ff => 1
  | .cmp _ _ _ => 1
  | .un _ f => f.sz + 1
  | .bi _ f g => f.sz + g.sz + 1
theorem sz_pos (f : Fm) : 1 ≤ f.sz := by cases f <;> simp [Fm.sz]
theorem sz_dp : ∀ f : Fm, f.sz < 2 ^ f.dp
  | .tt => by show 1 < 2 ^ 1; decide
  | .ff => by show 1 < 2 ^ 1; decide
  | .cmp _ _ _ => by show 1 < 2 ^ 1; decide
  | .un _ f => by
    have h := sz_dp f
    show f.sz + 1 < 2 ^ (f.dp + 1)
    rw [Nat.pow_succ]
    omega
  | .bi _ f g => by
    have h := sz_dp f
    have h' := sz_dp g
    have h1 : 2 ^ f.dp ≤ 2 ^ (max f.dp g.dp) := Nat.pow_le_pow_right (by decide) (Nat.le_max_left _ _)
    have h2 : 2 ^ g.dp ≤ 2 ^ (max f.dp g.dp) := Nat.pow_le_pow_right (by decide) (Nat.le_max_right _ _)
    show f.sz + g.sz + 1 < 2 ^ (max f.dp g.dp + 1)
    rw [Nat.pow_succ]
    omega
/-! ### what the rows stand for -/
def RowOf (fs facts : List Fm) (i : Nat) (f : Fm) (r : Rw) : Prop := match f with
  | .tt => r = rTT
  | .ff => r = rFF
  | .cmp c t u => ∃ k : Nat, r = (((("fact" : Str), (k : Int), -1)) : Rw) ∧ facts[k]? = some (.cmp c t u)
  | .un o g => ∃ l : Nat, l < i ∧ r = (o.w, (l : Int), -1) ∧ fs[l]? = some g
  | .bi o g h => ∃ l m : Nat, l < i ∧ m < i ∧ r = (o.w, (l : Int), (m : Int)) ∧ fs[l]? = some g ∧ fs[m]? = some h
structure Desc (fs : List Fm) (B : Bk) : Prop where
  len : fs.length = B.rows.length
  row : ∀ (i : Nat) (f : Fm), fs[i]? = some f → ∃ r, B.rows[i]? = some r ∧ RowOf fs B.facts i f r
theorem get_app {α : Type} {xs ys : List α} {i : Nat} {x : α} (h : xs[i]? = some x) : (xs ++ ys)[i]? = some x := by
  obtain ⟨h1, _⟩ := List.getElem?_eq_some_iff.mp h
  rw [List.getElem?_append_left h1]
  exact h
theorem RowOf.mono {fs facts : List Fm} {i j : Nat} {f : Fm} {r : Rw} (h : RowOf fs facts i f r) (more mf : List Fm) (hij : i ≤ j) : RowOf (fs ++ more) (facts ++ mf) j f r := by
  cases f with
  | tt => exact h
  | ff => exact h
  | cmp c t u =>
    obtain ⟨k, h1, h2⟩ := h
    exact ⟨k, h1, get_app h2⟩
  | un o g =>
    obtain ⟨l, h1, h2, h3⟩ := h
    exact ⟨l, by omega, h2, get_app h3⟩
  | bi o g k =>
    obtain ⟨l, m, h1, h2, h3, h4, h5⟩ := h
    exact ⟨l, m, by omega, by omega, h3, get_app h4, get_app h5⟩
theorem Un.w_inj {a b : Un} (h : a.w = b.w) : a = b := by cases a <;> cases b <;> first | rfl | exact absurd h (by decide +kernel)
theorem Bi.w_inj {a b : Bi} (h : a.w = b.w) : a = b := by cases a <;> cases b <;> first | rfl | exact absurd h (by decide +kernel)
theorem Un.w_tt (o : Un) : o.w ≠ "true" := by cases o <;> decide +kernel
theorem Un.w_ff (o : Un) : o.w ≠ "false" := by cases o <;> decide +kernel
theorem Un.w_fact (o : Un) : o.w ≠ "fact" := by cases o <;> decide +kernel
theorem Bi.w_tt (o : Bi) : o.w ≠ "true" := by cases o <;> decide +kernel
theorem Bi.w_ff (o : Bi) : o.w ≠ "false" := by cases o <;> decide +kernel
theorem Bi.w_fact (o : Bi) : o.w ≠ "fact" := by cases o <;> decide +kernel
theorem Un.w_bi (o : Un) (p : Bi) : o.w ≠ p.w := by cases o <;> cases p <;> decide +kernel
theorem row_fst {a b : Str} {x y : Int × Int} (h : ((a, x) : Rw) = (b, y)) : a = b := congrArg Prod.fst h
/-- a row stands for one formula -/
theorem RowOf.inj {fs facts : List Fm} {i j : Nat} {f g : Fm} {r : Rw} (h : RowOf fs facts i f r) (k : RowOf fs facts j g r) : f = g := by
  cases f with
  | tt =>
    have h : r = rTT := h
    subst h
    cases g with
    | tt => rfl
    | ff => exact absurd (row_fst (show (((("true" : Str), -1, -1)) : Rw) = ((("false" : Str), -1, -1)) from k)) (by decide +kernel)
    | cmp c t u => obtain ⟨_, e, _⟩ := k; exact absurd (row_fst e) (by decide +kernel)
    | un o g => obtain ⟨_, _, e, _⟩ := k; exact absurd (row_fst e).symm o.w_tt
    | bi o g m => obtain ⟨_, _, _, _, e, _⟩ := k; exact absurd (row_fst e).symm o.w_tt
  | ff =>
    have h : r = rFF := h
    subst h
    cases g with
    | tt => exact absurd (row_fst (show (((("false" : Str), -1, -1)) : Rw) = ((("true" : Str), -1, -1)) from k)) (by decide +kernel)
    | ff => rfl
    | cmp c t u => obtain ⟨_, e, _⟩ := k; exact absurd (row_fst e) (by decide +kernel)
    | un o g => obtain ⟨_, _, e, _⟩ := k; exact absurd (row_fst e).symm o.w_ff
    | bi o g m => obtain ⟨_, _, _, _, e, _⟩ := k; exact absurd (row_fst e).symm o.w_ff
  | cmp c t u =>
    obtain ⟨n, rfl, hn⟩ := h
    cases g with
    | tt => exact absurd (row_fst (show (((_ : Str), _, _) : Rw) = ((("true" : Str), -1, -1)) from k)) (by decide +kernel)
    | ff => exact absurd (row_fst (show (((_ : Str), _, _) : Rw) = ((("false" : Str), -1, -1)) from k)) (by decide +kernel)
    | cmp c' t' u' =>
      obtain ⟨m, e, hm⟩ := k
      have e1 : (n : Int) = (m : Int) := congrArg (fun r : Rw => r.2.1) e
      have e2 : n = m := by omega
      subst e2
      rw [hn] at hm
      exact Option.some.inj hm
    | un o g => obtain ⟨_, _, e, _⟩ := k; exact absurd (row_fst e).symm o.w_fact
    | bi o g m => obtain ⟨_, _, _, _, e, _⟩ := k; exact absurd (row_fst e).symm o.w_fact
  | un o f =>
    obtain ⟨n, _, rfl, hn⟩ := h
    cases g with
    | tt => exact absurd (row_fst (show (_ : Rw) = rTT from k)) o.w_tt
    | ff => exact absurd (row_fst (show (_ : Rw) = rFF from k)) o.w_ff
    | cmp c t u => obtain ⟨_, e, _⟩ := k; exact absurd (row_fst e) o.w_fact
    | un p g =>
      obtain ⟨m, _, e, hm⟩ := k
      obtain rfl := Un.w_inj (row_fst e)
      have e1 : (n : Int) = (m : Int) := congrArg (fun r : Rw => r.2.1) e
      have e2 : n = m := by omega
      subst e2
      rw [hn] at hm
      rw [Option.some.inj hm]
    | bi p g m => obtain ⟨_, _, _, _, e, _⟩ := k; exact absurd (row_fst e) (o.w_bi p)
  | bi o f f2 =>
    obtain ⟨n, n2, _, _, rfl, hn, hn2⟩ := h
    cases g with
    | tt => exact absurd (row_fst (show (_ : Rw) = rTT from k)) o.w_tt
    | ff => exact absurd (row_fst (show (_ : Rw) = rFF from k)) o.w_ff
    | cmp c t u => obtain ⟨_, e, _⟩ := k; exact absurd (row_fst e) o.w_fact
    | un p g => obtain ⟨_, _, e, _⟩ := k; exact absurd (row_fst e).symm (p.w_bi o)
    | bi p g g2 =>
      obtain ⟨m, m2, _, _, e, hm, hm2⟩ := k
      obtain rfl := Bi.w_inj (row_fst e)
      have e1 : (n : Int) = (m : Int) := congrArg (fun r : Rw => r.2.1) e
      have e2 : n = m := by omega
      subst e2
      have e3 : (n2 : Int) = (m2 : Int) := congrArg (fun r : Rw => r.2.2) e
      have e4 : n2 = m2 := by omega
      subst e4
      rw [hn] at hm
      rw [hn2] at hm2
      rw [Option.some.inj hm, Option.some.inj hm2]
/-- a row put -/
theorem Desc.put {fs : List Fm} {B : Bk} {f : Fm} {r : Rw} (d : Desc fs B) (h : RowOf fs B.facts fs.length f r) : ∃ more, (more = [] ∨ more = [f]) ∧ Desc (fs ++ more) (B.put r) ∧ (fs ++ more)[ixR B.rows r]? = some f ∧ (f ∉ fs → ixR B.rows r + 1 = (fs ++ more).length) := by
  unfold Bk.put
  by_cases hr : r ∈ B.rows
  · rw [if_pos hr]
    have hi : ixR B.rows r < B.rows.length := List.idxOf_lt_length_of_mem hr
    have hi' : ixR B.rows r < fs.length := by rw [d.len]; exact hi
    have e1 : B.rows[ixR B.rows r]? = some r := by rw [List.getElem?_eq_getElem hi]; exact congrArg some (List.getElem_idxOf hi)
    obtain ⟨r', e2, h2⟩ := d.row _ _ (List.getElem?_eq_getElem hi')
    rw [e1] at e2
    cases e2
    have e3 := h2.inj h
    refine ⟨[], .inl rfl, by rw [List.append_nil]; exact d, ?_, fun hn => absurd (e3 ▸ List.getElem_mem hi') hn⟩
    rw [List.append_nil, List.getElem?_eq_getElem hi', e3]
  · rw [if_neg hr]
    have hi : ixR B.rows r = B.rows.length := List.idxOf_eq_length hr
    refine ⟨[f], .inr rfl, ⟨by simp [d.len], fun i g hg => ?_⟩, by rw [hi, ← d.len]; simp, fun _ => by rw [hi, List.length_append, d.len] <;> rfl⟩
    by_cases hlt : i < fs.length
    · rw [List.getElem?_append_left hlt] at hg
      obtain ⟨r', e2, h2⟩ := d.row i g hg
      refine ⟨r', get_app e2, ?_⟩
      have := h2.mono [f] [] (Nat.le_refl i)
      rw [List.append_nil] at this
      exact this
    · have hge : fs.length ≤ i := by omega
      rw [List.getElem?_append_right hge] at hg
      have hi0 : i - fs.length = 0 := by
        cases e : i - fs.length with
        | zero => rfl
        | succ k => rw [e] at hg; simp at hg
      rw [hi0] at hg
      have e5 : f = g := by simpa using hg
      subst e5
      have hi2 : i = fs.length := by omega
      subst hi2
      refine ⟨r, by rw [d.len]; simp, ?_⟩
      have := h.mono [f] [] (Nat.le_refl _)
      rw [List.append_nil] at this
      exact this
theorem Desc.facts {fs : List Fm} {B : Bk} (d : Desc fs B) (mf : List Fm) : Desc fs { facts := B.facts ++ mf, rows := B.rows } := ⟨d.len, fun i f h => by
  obtain ⟨r, h1, h2⟩ := d.row i f h
  have := h2.mono [] mf (Nat.le_refl i)
  rw [List.append_nil] at this
  exact ⟨r, h1, this⟩⟩
theorem Desc.putFact {fs : List Fm} {B : Bk} (d : Desc fs B) (c : Fm) : Desc fs (B.putFact c) ∧ (B.putFact c).facts[ixF B.facts c]? = some c ∧ (B.putFact c).rows = B.rows := by
  unfold Bk.putFact
  by_cases h : c ∈ B.facts
  · rw [if_pos h]
    have hi : ixF B.facts c < B.facts.length := List.idxOf_lt_length_of_mem h
    exact ⟨d, by rw [List.getElem?_eq_getElem hi]; exact congrArg some (List.getElem_idxOf hi), rfl⟩
  · rw [if_neg h]
    exact ⟨d.facts [c], by rw [show ixF B.facts c = B.facts.length from List.idxOf_eq_length h]; simp, rfl⟩
/-- a formula put: it stands at its number; what came new is no larger; the whole comes last -/
theorem Desc.fm : ∀ (f : Fm) {fs : List Fm} {B : Bk}, Desc fs B → ∃ more, Desc (fs ++ more) (Bk.fm f B).1 ∧ (fs ++ more)[(Bk.fm f B).2]? = some f ∧ (∀ g ∈ more, g.sz ≤ f.sz) ∧ ((∀ g ∈ fs, g.sz < f.sz) → (Bk.fm f B).2 + 1 = (fs ++ more).length)
  | .tt, fs, B, d => by
    obtain ⟨more, hm, h1, h2, h3⟩ := d.put (f := .tt) (r := rTT) rfl
    exact ⟨more, h1, h2, fun g hg => (by rcases hm with rfl | rfl; cases hg; rw [List.mem_singleton.mp hg]; exact Nat.le_refl _), fun hs => h3 fun z => absurd (hs _ z) (Nat.lt_irrefl _)⟩
  | .ff, fs, B, d => by
    obtain ⟨more, hm, h1, h2, h3⟩ := d.put (f := .ff) (r := rFF) rfl
    exact ⟨more, h1, h2, fun g hg => (by rcases hm with rfl | rfl; cases hg; rw [List.mem_singleton.mp hg]; exact Nat.le_refl _), fun hs => h3 fun z => absurd (hs _ z) (Nat.lt_irrefl _)⟩
  | .cmp c t u, fs, B, d => by
    obtain ⟨d1, hk, hr⟩ := d.putFact (.cmp c t u)
    obtain ⟨more, hm, h1, h2, h3⟩ := d1.put (f := .cmp c t u) (r := factRow B (.cmp c t u)) ⟨_, rfl, hk⟩
    rw [hr] at h2 h3
    exact ⟨more, h1, h2, fun g hg => (by rcases hm with rfl | rfl; cases hg; rw [List.mem_singleton.mp hg]; exact Nat.le_refl _), fun hs => h3 fun z => absurd (hs _ z) (Nat.lt_irrefl _)⟩
  | .un o f, fs, B, d => by
    obtain ⟨m1, d1, e1, s1, _⟩ := Desc.fm f d
    have hl : (Bk.fm f B).2 < (fs ++ m1).length := (List.getElem?_eq_some_iff.mp e1).1
    obtain ⟨m2, hm, h1, h2, h3⟩ := d1.put (f := .un o f) (r := (o.w, (((Bk.fm f B).2 : Nat) : Int), -1)) ⟨_, hl, rfl, e1⟩
    refine ⟨m1 ++ m2, by rw [← List.append_assoc]; exact h1, by rw [← List.append_assoc]; exact h2, fun g hg => ?_, fun hs => ?_⟩
    · rcases List.mem_append.mp hg with hg | hg
      · exact Nat.le_succ_of_le (s1 g hg)
      · rcases hm with rfl | rfl
        · cases hg
        · rw [List.mem_singleton.mp hg]
          exact Nat.le_refl _
    · rw [← List.append_assoc]
      refine h3 fun z => ?_
      rcases List.mem_append.mp z with z | z
      · exact absurd (hs _ z) (Nat.lt_irrefl _)
      · have := s1 _ z
        have e : (Fm.un o f).sz = f.sz + 1 := rfl
        omega
  | .bi o f g, fs, B, d => by
    obtain ⟨m1, d1, e1, s1, _⟩ := Desc.fm f d
    obtain ⟨m2, d2, e2, s2, _⟩ := Desc.fm g d1
    have hl : (Bk.fm f B).2 < (fs ++ m1 ++ m2).length := (List.getElem?_eq_some_iff.mp (get_app (ys := m2) e1)).1
    have hl2 : (Bk.fm g (Bk.fm f B).1).2 < (fs ++ m1 ++ m2).length := (List.getElem?_eq_some_iff.mp e2).1
    obtain ⟨m3, hm, h1, h2, h3⟩ := d2.put (f := .bi o f g) (r := (o.w, (((Bk.fm f B).2 : Nat) : Int), (((Bk.fm g (Bk.fm f B).1).2 : Nat) : Int))) ⟨_, _, hl, hl2, rfl, get_app e1, e2⟩
    have ea : fs ++ (m1 ++ m2 ++ m3) = fs ++ m1 ++ m2 ++ m3 := by simp [List.append_assoc]
    refine ⟨m1 ++ m2 ++ m3, by rw [ea]; exact h1, by rw [ea]; exact h2, fun k hk => ?_, fun hs => ?_⟩
    · have e : (Fm.bi o f g).sz = f.sz + g.sz + 1 := rfl
      rcases List.mem_append.mp hk with hk | hk
      · rcases List.mem_append.mp hk with hk | hk
        · have := s1 k hk
          omega
        · have := s2 k hk
          omega
      · rcases hm with rfl | rfl
        · cases hk
        · rw [List.mem_singleton.mp hk]
          exact Nat.le_refl _
    · rw [ea]
      refine h3 fun z => ?_
      have e : (Fm.bi o f g).sz = f.sz + g.sz + 1 := rfl
      rcases List.mem_append.mp z with z | z
      · rcases List.mem_append.mp z with z | z
        · exact absurd (hs _ z) (Nat.lt_irrefl _)
        · have := s1 _ z
          omega
      · have := s2 _ z
        omega
/-! ### sizes; the facts are fine -/
theorem put_len (B : Bk) (r : Rw) : (B.put r).rows.length ≤ B.rows.length + 1 ∧ (B.put r).facts = B.facts := by
  unfold Bk.put
  split
  · exact ⟨Nat.le_succ _, rfl⟩
  · exact ⟨by simp, rfl⟩
theorem putFact_len (B : Bk) (c : Fm) : (B.putFact c).facts.length ≤ B.facts.length + 1 ∧ (B.putFact c).rows = B.rows := by
  unfold Bk.putFact
  split
  · exact ⟨Nat.le_succ _, rfl⟩
  · exact ⟨by simp, rfl⟩
theorem fm_len : ∀ (f : Fm) (B : Bk), (Bk.fm f B).1.rows.length ≤ B.rows.length + f.sz ∧ (Bk.fm f B).1.facts.length ≤ B.facts.length + f.sz
  | .tt, B => by
    have h := put_len B rTT
    exact ⟨h.1, by show (B.put _).facts.length ≤ _; rw [h.2]; exact Nat.le_add_right _ _⟩
  | .ff, B => by
    have h := put_len B rFF
    exact ⟨h.1, by show (B.put _).facts.length ≤ _; rw [h.2]; exact Nat.le_add_right _ _⟩
  | .cmp c t u, B => by
    have h := put_len (B.putFact (.cmp c t u)) (factRow B (.cmp c t u))
    have h' := putFact_len B (.cmp c t u)
    rw [h'.2] at h
    exact ⟨h.1, by show ((B.putFact _).put _).facts.length ≤ _; rw [h.2]; exact h'.1⟩
  | .un o f, B => by
    have h := put_len (Bk.fm f B).1 (o.w, (((Bk.fm f B).2 : Nat) : Int), -1)
    have h' := fm_len f B
    refine ⟨by show ((Bk.fm f B).1.put _).rows.length ≤ B.rows.length + (f.sz + 1); omega, ?_⟩
    show ((Bk.fm f B).1.put _).facts.length ≤ B.facts.length + (f.sz + 1)
    rw [h.2]
    omega
  | .bi o f g, B => by
    have h := put_len (Bk.fm g (Bk.fm f B).1).1 (o.w, (((Bk.fm f B).2 : Nat) : Int), (((Bk.fm g (Bk.fm f B).1).2 : Nat) : Int))
    have h' := fm_len f B
    have h2 := fm_len g (Bk.fm f B).1
    refine ⟨by show ((Bk.fm g (Bk.fm f B).1).1.put _).rows.length ≤ B.rows.length + (f.sz + g.sz + 1); omega, ?_⟩
    show ((Bk.fm g (Bk.fm f B).1).1.put _).facts.length ≤ B.facts.length + (f.sz + g.sz + 1)
    rw [h.2]
    omega
def isCmp : Fm → Bool
  | .cmp _ _ _ => true
  | _ => false
def FactsOk (N : List Str) (B : Bk) : Prop := ∀ c ∈ B.facts, isCmp c = true ∧ c.fine N
theorem FactsOk.put {N : List Str} {B : Bk} (h : FactsOk N B) (r : Rw) : FactsOk N (B.put r) := fun c hc => h c (by rw [(put_len B r).2] at hc; exact hc)
theorem FactsOk.putFact {N : List Str} {B : Bk} (h : FactsOk N B) {c : Fm} (hc : isCmp c = true ∧ c.fine N) : FactsOk N (B.putFact c) := fun x hx => by
  unfold Bk.putFact at hx
  split at hx
  · exact h x hx
  · rcases List.mem_append.mp hx with hx | hx
    · exact h x hx
    · rw [List.mem_singleton.mp hx]
      exact hc
theorem FactsOk.fm {N : List Str} : ∀ (f : Fm) {B : Bk}, FactsOk N B → f.fine N → FactsOk N (Bk.fm f B).1
  | .tt, B, h, _ => h.put _
  | .ff, B, h, _ => h.put _
  | .cmp c t u, B, h, hf => (h.putFact ⟨rfl, hf⟩).put _
  | .un o f, B, h, hf => (FactsOk.fm f h hf).put _
  | .bi o f g, B, h, hf => (FactsOk.fm g (FactsOk.fm f h hf.1) hf.2).put _

/-! ### equal data, equal trees -/
mutual
/-- data of ints, texts and tuples alone -/
def plx : PyData → Bool
  | .int _ => true
  | .str _ => true
  | .tuple ds => plxs ds
  | _ => false
def plxs : List PyData → Bool
  | [] => true
  | d :: ds => plx d && plxs ds
end
mutual
theorem eqv_eq : ∀ (d e : PyData), plx d = true → plx e = true → PyData.eqv d e = true → d = e
  | .int i, .int j, _, _, h => by
    rw [eqv_int] at h
    rw [of_decide_eq_true h]
  | .str i, .str j, _, _, h => by
    rw [eqv_str] at h
    rw [of_decide_eq_true h]
  | .tuple ds, .tuple es, h1, h2, h => by
    simp only [PyData.eqv] at h
    rw [eqvs_eq ds es h1 h2 h]
  | .int _, .str _, _, _, h => by simp only [PyData.eqv] at h; cases h
  | .int _, .tuple _, _, _, h => by simp only [PyData.eqv] at h; cases h
  | .str _, .int _, _, _, h => by simp only [PyData.eqv] at h; cases h
  | .str _, .tuple _, _, _, h => by simp only [PyData.eqv] at h; cases h
  | .tuple _, .int _, _, _, h => by simp only [PyData.eqv] at h; cases h
  | .tuple _, .str _, _, _, h => by simp only [PyData.eqv] at h; cases h
  | .none, _, h, _, _ => nomatch h
  | .bool _, _, h, _, _ => nomatch h
  | .list _, _, h, _, _ => nomatch h
  | .dict _, _, h, _, _ => nomatch h
  | _, .none, _, h, _ => nomatch h
  | _, .bool _, _, h, _ => nomatch h
  | _, .list _, _, h, _ => nomatch h
  | _, .dict _, _, h, _ => nomatch h
theorem eqvs_eq : ∀ (ds es : List PyData), plxs ds = true → plxs es = true → PyData.eqvAll ds es = true → ds = es
  | [], [], _, _, _ => rfl
  | [], _ :: _, _, _, h => by simp only [PyData.eqvAll] at h; cases h
  | _ :: _, [], _, _, h => by simp only [PyData.eqvAll] at h; cases h
  | d :: ds, e :: es, h1, h2, h => by
    have h1' : (plx d && plxs ds) = true := h1
    have h2' : (plx e && plxs es) = true := h2
    simp only [PyData.eqvAll] at h
    rw [Bool.and_eq_true] at h h1' h2'
    rw [eqv_eq d e h1'.1 h2'.1 h.1, eqvs_eq ds es h1'.2 h2'.2 h.2]
end
theorem Tm.plx : ∀ t : Tm, plx t.d = true
  | .num n => rfl
  | .nm w => rfl
  | .neg t => by
    show (true && (K27.plx t.d && true)) = true
    rw [Tm.plx t] <;> rfl
  | .opk o t k => by
    show (true && (K27.plx t.d && (true && true))) = true
    rw [Tm.plx t] <;> rfl
  | .op2 o t u => by
    show (true && (K27.plx t.d && (K27.plx u.d && true))) = true
    rw [Tm.plx t, Tm.plx u] <;> rfl
theorem Fm.plx : ∀ f : Fm, plx f.d = true
  | .tt => rfl
  | .ff => rfl
  | .cmp c t u => by
    show (true && (K27.plx t.d && (K27.plx u.d && true))) = true
    rw [Tm.plx t, Tm.plx u] <;> rfl
  | .un o f => by
    show (true && (K27.plx f.d && true)) = true
    rw [Fm.plx f] <;> rfl
  | .bi o f g => by
    show (true && (K27.plx f.d && (K27.plx g.d && true))) = true
    rw [Fm.plx f, Fm.plx g] <;> rfl
theorem Ok2.w_inj {a b : Ok2} (h : a.w = b.w) : a = b := by cases a <;> cases b <;> first | rfl | exact absurd h (by decide +kernel)
theorem Op2.w_inj {a b : Op2} (h : a.w = b.w) : a = b := by cases a <;> cases b <;> first | rfl | exact absurd h (by decide +kernel)
theorem Cm.w_inj {a b : Cm} (h : a.w = b.w) : a = b := by cases a <;> cases b <;> first | rfl | exact absurd h (by decide +kernel)
theorem Op2.w_ok (a : Op2) (b : Ok2) : a.w ≠ b.w := by cases a <;> cases b <;> decide +kernel
theorem Cm.w_bi (o : Cm) (p : Bi) : o.w ≠ p.w := by cases o <;> cases p <;> decide +kernel
theorem Tm.d_inj : ∀ (t u : Tm), t.d = u.d → t = u
  | .num n, .num m, h => by injection h with h; injection h with h1 h2; injection h2 with h2; injection h2 with h2; rw [h2]
  | .nm n, .nm m, h => by injection h with h; injection h with h1 h2; injection h2 with h2; injection h2 with h2; rw [h2]
  | .neg t, .neg u, h => by injection h with h; injection h with h1 h2; injection h2 with h2; rw [Tm.d_inj t u h2]
  | .opk o t k, .opk p u l, h => by
    injection h with h; injection h with h1 h2; injection h2 with h2 h3; injection h3 with h3; injection h3 with h3; injection h1 with h1
    rw [Ok2.w_inj h1, Tm.d_inj t u h2, h3]
  | .op2 o t t2, .op2 p u u2, h => by
    injection h with h; injection h with h1 h2; injection h2 with h2 h3; injection h3 with h3; injection h1 with h1
    rw [Op2.w_inj h1, Tm.d_inj t u h2, Tm.d_inj t2 u2 h3]
  | .num n, .nm m, h => by injection h with h; injection h with h1 h2; injection h1 with h1; exact absurd h1 (by decide +kernel)
  | .num n, .neg m, h => by injection h with h; injection h with h1 h2; injection h1 with h1; exact absurd h1 (by decide +kernel)
  | .num n, .opk _ _ _, h => by injection h with h; injection h with h1 h2; injection h2 with h2 h3; cases h3
  | .num n, .op2 _ _ _, h => by injection h with h; injection h with h1 h2; injection h2 with h2 h3; cases h3
  | .nm n, .num m, h => by injection h with h; injection h with h1 h2; injection h1 with h1; exact absurd h1 (by decide +kernel)
  | .nm n, .neg m, h => by injection h with h; injection h with h1 h2; injection h1 with h1; exact absurd h1 (by decide +kernel)
  | .nm n, .opk _ _ _, h => by injection h with h; injection h with h1 h2; injection h2 with h2 h3; cases h3
  | .nm n, .op2 _ _ _, h => by injection h with h; injection h with h1 h2; injection h2 with h2 h3; cases h3
  | .neg n, .num m, h => by injection h with h; injection h with h1 h2; injection h1 with h1; exact absurd h1 (by decide +kernel)
  | .neg n, .nm m, h => by injection h with h; injection h with h1 h2; injection h1 with h1; exact absurd h1 (by decide +kernel)
  | .neg n, .opk _ _ _, h => by injection h with h; injection h with h1 h2; injection h2 with h2 h3; cases h3
  | .neg n, .op2 _ _ _, h => by injection h with h; injection h with h1 h2; injection h2 with h2 h3; cases h3
  | .opk _ _ _, .num m, h => by injection h with h; injection h with h1 h2; injection h2 with h2 h3; cases h3
  | .opk _ _ _, .nm m, h => by injection h with h; injection h with h1 h2; injection h2 with h2 h3; cases h3
  | .opk _ _ _, .neg m, h => by injection h with h; injection h with h1 h2; injection h2 with h2 h3; cases h3
  | .opk o _ _, .op2 p _ _, h => by injection h with h; injection h with h1 h2; injection h1 with h1; exact absurd h1.symm (p.w_ok o)
  | .op2 _ _ _, .num m, h => by injection h with h; injection h with h1 h2; injection h2 with h2 h3; cases h3
  | .op2 _ _ _, .nm m, h => by injection h with h; injection h with h1 h2; injection h2 with h2 h3; cases h3
  | .op2 _ _ _, .neg m, h => by injection h with h; injection h with h1 h2; injection h2 with h2 h3; cases h3
  | .op2 o _ _, .opk p _ _, h => by injection h with h; injection h with h1 h2; injection h1 with h1; exact absurd h1 (o.w_ok p)
theorem cmp_inj {a b : Fm} (ha : isCmp a = true) (hb : isCmp b = true) (h : a.d = b.d) : a = b := by
  cases a <;> first | cases ha | skip
  cases b <;> first | cases hb | skip
  rename_i c t u c' t' u'
  injection h with h; injection h with h1 h2; injection h2 with h2 h3; injection h3 with h3; injection h1 with h1
  rw [Cm.w_inj h1, Tm.d_inj t t' h2, Tm.d_inj u u' h3]
mutual
theorem eqvx_refl : ∀ d : PyData, plx d = true → PyData.eqv d d = true
  | .int i, _ => by rw [eqv_int]; exact decide_eq_true rfl
  | .str i, _ => by rw [eqv_str]; exact decide_eq_true rfl
  | .tuple ds, h => by
    simp only [PyData.eqv]
    exact eqvxs_refl ds h
  | .none, h => nomatch h
  | .bool _, h => nomatch h
  | .list _, h => nomatch h
  | .dict _, h => nomatch h
theorem eqvxs_refl : ∀ ds : List PyData, plxs ds = true → PyData.eqvAll ds ds = true
  | [], _ => by simp only [PyData.eqvAll]
  | d :: ds, h => by
    have h' : (plx d && plxs ds) = true := h
    rw [Bool.and_eq_true] at h'
    simp only [PyData.eqvAll]
    rw [eqvx_refl d h'.1, eqvxs_refl ds h'.2] <;> rfl
end
theorem cmp_eqv {a b : Fm} (ha : isCmp a = true) (hb : isCmp b = true) : PyData.eqv a.d b.d = decide (a = b) := by
  by_cases h : a = b
  · subst h
    rw [decide_eq_true rfl]
    exact eqvx_refl _ a.plx
  · rw [decide_eq_false h]
    cases e : PyData.eqv a.d b.d with
    | false => rfl
    | true => exact absurd (cmp_inj ha hb (eqv_eq _ _ a.plx b.plx e)) h
end K27

/-! K27: lassoproof/formulas/rows.py. -/
namespace K27
open PySem PySem.Spec PyProof.Rows L2 Evl
local macro_rules | `(tactic| walk_at "ev") => `(tactic| first
  | exact ev_c
  | exact ev_var rfl
  | (refine' et_test ?h; (case h => walk_at "ev"))
  | (refine' et_B ?h; (case h => walk_at "ev"))
  | (refine' et_not ?h; (case h => walk_at "ev"))
  | (refine' et_and ?a (fun _ => ?b); (case a => walk_at "ev"); (case b => walk_at "ev"))
  | (refine' et_or ?a (fun _ => ?b); (case a => walk_at "ev"); (case b => walk_at "ev"))
  | (refine' ev_op ?a ?b (rv_eq ?c); (case a => walk_at "ev"); (case b => walk_at "ev"); (case c => rfl))
  | (refine' ev_op ?a ?b rv_I0; (case a => walk_at "ev"); (case b => walk_at "ev"))
  | (refine' ev_inU ?a ?b ?c ?d; (case a => walk_at "ev"); (case b => (refine' eu_tup ?x ?y; (case x => walk_at "ev"); (case y => decide))); (case c => rfl); (case d => rfl))
  | (refine' ev_str (e_ixT ?a ?b ?c); (case a => walk_at "ed"); (case b => walk_at "ev"); (case c => first | exact at0 | exact at1 | exact at2))
  | (refine' ev_int (e_ixT ?a ?b ?c); (case a => walk_at "ed"); (case b => walk_at "ev"); (case c => first | exact at0 | exact at1 | exact at2))
  | exact Evl.ea_nil
  | (refine' Evl.ea_cons ?a ?b; (case a => walk_at "ev"); (case b => walk_at "ev")))
local macro_rules | `(tactic| walk_at "ed") => `(tactic| first
  | exact e_var rfl (by assumption)
  | exact e_var rfl (by constructor)
  | exact K27.ea_nil
  | (refine' K27.ea_cons ?a ?b; (case a => walk_at "ed"); (case b => walk_at "ed"))
  | (refine' e_tup ?a ?b; (case a => walk_at "ed"); (case b => (simp only [List.length_cons, List.length_nil, List.length_append]; omega)))
  | (refine' e_ixT ?a ?b ?c; (case a => walk_at "ed"); (case b => walk_at "ev"); (case c => first | exact at0 | exact at1 | exact at2))
  | (refine' e_ev ?a ?b; (case a => walk_at "ev"); (case b => first | exact .str _ | exact .int _ | exact .bl _ | assumption)))
/-! ### methods, classes -/
def DefM (K : PySem.W.Frag) (C : Addr) (x qual : Str) (st : Stmt) (ps : List Str) : Prop := ∃ f fd, Fun K x qual st f fd ∧ Meth K C x f ∧ Binds K fd ps []
def MthAt (P : Program) (w : World) (K : PySem.W.Frag) (mg : Str → Option Value) (base : Heap) (C : Addr) (k : Nat) (x : Str) (ps : List Str) (sp : Sp) : Prop := ∃ f fd, Meth K C x f ∧ Binds K fd ps [] ∧ FnOk P w K mg base CX0 k f fd ps sp
section
variable {P : Program} {w : World} {K : PySem.W.Frag} {mg : Str → Option Value} {base : Heap} {C : Addr}
theorem DefM.ok {x qual : Str} {st : Stmt} {N ps : List Str} {k : Nat} {sp : Sp} (D : DefM K C x qual st ps) (S : FnScope N ps (defScope st)) (len : ∀ vs H Q E, sp vs H Q E → vs.length = ps.length)
    (hbody : ∀ (f : Addr) (cdv : Value) (A : Around) (outer : List Env) (s : Shared) (H : Hp) (vs : List V) (Q : VK) (E : XK), Room k (A.deeper (envOfC qual (defScope st) s.heap.objs.size f cdv)) → sp vs H Q E →
      ∃ t, PSs (cxOf CX0 P w K mg base N qual (defScope st) f cdv A outer s H E).nox (defBody st) t ∧ t { nx := fun _ H' => Q .non H', rt := Q } (start N vs) H) : MthAt P w K mg base C (k + 1) x ps sp := by
  obtain ⟨f, fd, F, hm, hb⟩ := D
  exact ⟨f, fd, hm, hb, F.ok S len (hbody f)⟩
theorem MthAt.none {x qual : Str} {st : Stmt} {ps : List Str} {sp : Sp} {k : Nat} (D : DefM K C x qual st ps) (no : ∀ vs H Q E, ¬ sp vs H Q E) : MthAt P w K mg base C k x ps sp := by
  obtain ⟨f, fd, F, hm, hb⟩ := D
  exact ⟨f, fd, hm, hb, fun vs H Q E h => absurd h (no vs H Q E), fun A outer s H args us vs Q E _ _ _ _ h => absurd h (no vs H Q E)⟩
theorem MthAt.mono {j k : Nat} {x : Str} {ps : List Str} {sp : Sp} (h : MthAt P w K mg base C j x ps sp) (hk : j ≤ k) : MthAt P w K mg base C k x ps sp := by
  obtain ⟨f, fd, h2, h3, h4⟩ := h
  exact ⟨f, fd, h2, h3, h4.mono hk⟩
end
section
variable {X : Cx} {o e : Expr} {es : List Expr} {t : TA} {ta : TE} {apos pos : Pos} {k j : Nat} {x : Str} {ps : List Str} {sp : Sp} {C : Addr}
theorem pe_methX {E' : XK} {pl : Sem Bool} (c : Cls X.K C) (F : MthAt X.prog X.w X.K X.mg X.base C j x ps sp) (hr : Room k X.A) (he : PE X o ta) (ha : PA X (e :: es) t) (hx : Passes CX0 X E' := by exact pass0) (hj : j ≤ k := by omega)
    (hst : starEach (e :: es) X.env = (false, eval e X.env) :: starEach es X.env := by rfl) (hpl : (backTo pos (starEach es X.env)).any (·.1) = false := by rfl)
    (ht : eval (.Call (.Attribute o x apos) (e :: es) [] pos) X.env = (do
      let ov ← eval o X.env
      standAt apos.atName
      let (f, first) ← holding [ov] (getMethod ov x pl)
      callWith pos f first (backTo pos (starEach (e :: es) X.env)) (backToKw pos (keywordEach [] X.env))) := by rfl) : PE X (.Call (.Attribute o x apos) (e :: es) [] pos) (tMeth C x sp [] E' ta t) := by
  obtain ⟨f, fd, hm, hb, F⟩ := F
  exact pe_meth he c hm F (hr.mono hj) hb .nil hx ha hst hpl ht
end
/-! ### a book in the heap -/
theorem ks1 : (("facts" : Str) == "rows") = false := by decide +kernel
theorem ks2 : (("facts" : Str) == "_numbers") = false := by decide +kernel
theorem ks3 : (("rows" : Str) == "_numbers") = false := by decide +kernel
theorem ks4 : (("facts" : Str) == "temporal") = false := by decide +kernel
theorem ks5 : (("rows" : Str) == "temporal") = false := by decide +kernel
theorem beq_false_comm {a b : Str} (h : (a == b) = false) : (b == a) = false := beq_eq_false_iff_ne.mpr fun z => beq_eq_false_iff_ne.mp h z.symm
theorem put_new {f : Str} {v : V} : ∀ {fs : List (Str × V)}, (∀ p ∈ fs, (p.1 == f) = false) → putF f v fs = fs ++ [(f, v)]
  | [], _ => rfl
  | (a, x) :: r, h => by
    have h1 : (a == f) = false := h (a, x) List.mem_cons_self
    have h2 : ¬ a = f := beq_eq_false_iff_ne.mp h1
    show (if a = f then (a, v) :: r else (a, x) :: putF f v r) = (a, x) :: (r ++ [(f, v)])
    rw [if_neg h2, put_new fun p hp => h p (List.mem_cons_of_mem _ hp)]
def bookF (lf lr dn : Addr) : List (Str × V) := [("facts", .ref lf), ("rows", .ref lr), ("_numbers", .ref dn)]
theorem lk_facts (lf lr dn : Addr) : (bookF lf lr dn).lookup ("facts" : Str) = some (.ref lf) := by
  unfold bookF
  simp only [List.lookup]
  rw [show (("facts" : Str) == ("facts" : Str)) = true from beq_self_eq_true _]
theorem lk_rows (lf lr dn : Addr) : (bookF lf lr dn).lookup ("rows" : Str) = some (.ref lr) := by
  unfold bookF
  simp only [List.lookup]
  rw [beq_false_comm ks1, show (("rows" : Str) == ("rows" : Str)) = true from beq_self_eq_true _]
theorem lk_numbers (lf lr dn : Addr) : (bookF lf lr dn).lookup ("_numbers" : Str) = some (.ref dn) := by
  unfold bookF
  simp only [List.lookup]
  rw [beq_false_comm ks2, beq_false_comm ks3, show (("_numbers" : Str) == ("_numbers" : Str)) = true from beq_self_eq_true _]
theorem lk_none {x : Str} (lf lr dn : Addr) (h1 : (x == "facts") = false) (h2 : (x == "rows") = false) (h3 : (x == "_numbers") = false) : (bookF lf lr dn).lookup x = none := by
  unfold bookF
  simp only [List.lookup]
  rw [h1, h2, h3]
def rowD (r : Rw) : PyData := .tuple [.str r.1, .int r.2.1, .int r.2.2]
def rowKey (r : Rw) : List Key := [.inr r.1, .inl r.2.1, .inl r.2.2]
/-- the numbers of the rows -/
def numK : Nat → List Rw → List (List Key × V)
  | _, [] => []
  | i, r :: rs => (rowKey r, .int (i : Nat)) :: numK (i + 1) rs
theorem rowKey_inj {a b : Rw} (h : rowKey a = rowKey b) : a = b := by
  obtain ⟨a1, a2, a3⟩ := a
  obtain ⟨b1, b2, b3⟩ := b
  unfold rowKey at h
  injection h with h1 h2
  injection h2 with h2 h3
  injection h3 with h3
  have e1 := Sum.inr.inj h1
  have e2 := Sum.inl.inj h2
  have e3 := Sum.inl.inj h3
  simp only at e1 e2 e3
  rw [e1, e2, e3]
theorem numK_len : ∀ (i : Nat) (rs : List Rw), (numK i rs).length = rs.length
  | _, [] => rfl
  | i, r :: rs => congrArg (· + 1) (numK_len (i + 1) rs)
theorem numK_snoc : ∀ (i : Nat) (rs : List Rw) (r : Rw), numK i (rs ++ [r]) = numK i rs ++ [(rowKey r, .int ((i + rs.length : Nat) : Int))]
  | i, [], r => rfl
  | i, a :: rs, r => by
    show (rowKey a, V.int (i : Nat)) :: numK (i + 1) (rs ++ [r]) = (rowKey a, V.int (i : Nat)) :: (numK (i + 1) rs ++ [(rowKey r, .int ((i + (rs.length + 1) : Nat) : Int))])
    rw [numK_snoc (i + 1) rs r]
    congr 4
    congr 2
    omega
theorem numK_val : ∀ (i : Nat) (rs : List Rw) (r : Rw), valV (numK i rs) (rowKey r) = if r ∈ rs then some (.int ((i + ixR rs r : Nat) : Int)) else none
  | i, [], r => rfl
  | i, a :: rs, r => by
    by_cases h : a = r
    · subst h
      rw [if_pos List.mem_cons_self]
      show valV ((rowKey a, V.int (i : Nat)) :: numK (i + 1) rs) (rowKey a) = _
      rw [valV_pos rfl]
      have e : ixR (a :: rs) a = 0 := List.idxOf_cons_self
      rw [e] <;> rfl
    · show valV ((rowKey a, V.int (i : Nat)) :: numK (i + 1) rs) (rowKey r) = _
      rw [valV_neg fun z => h (rowKey_inj z), numK_val (i + 1) rs r]
      have e : ixR (a :: rs) r = ixR rs r + 1 := by
        unfold ixR
        rw [List.idxOf_cons, show (a == r) = false from beq_eq_false_iff_ne.mpr h] <;> rfl
      by_cases hm : r ∈ rs
      · rw [if_pos hm, if_pos (List.mem_cons_of_mem _ hm), e]
        congr 3
        omega
      · rw [if_neg hm, if_neg fun z => (List.mem_cons.mp z).elim (fun q => h q.symm) hm]
structure BookAt (K : PySem.W.Frag) (C : Addr) (H : Hp) (p dx lf lr dn : Addr) (B : Bk) : Prop where
  ob : H p = some (.ins C dx (bookF lf lr dn))
  ne : lf ≠ lr
  fs : ∃ vf, H lf = some (.lst vf) ∧ DaAll K H vf (B.facts.map Fm.d)
  rs : ∃ vr, H lr = some (.lst vr) ∧ DaAll K H vr (B.rows.map rowD)
  ns : H dn = some (.dT (numK 0 B.rows))
/-- all but the book's lists and its dict stands -/
def FrB (lf lr dn : Addr) (H H' : Hp) : Prop := ∀ b o, H b = some o → b ≠ lf → b ≠ lr → b ≠ dn → H' b = some o
theorem FrB.refl {lf lr dn : Addr} {H : Hp} : FrB lf lr dn H H := fun _ _ h _ _ _ => h
theorem FrB.trans {lf lr dn : Addr} {H H1 H2 : Hp} (a : FrB lf lr dn H H1) (b : FrB lf lr dn H1 H2) : FrB lf lr dn H H2 := fun c o h h1 h2 h3 => b c o (a c o h h1 h2 h3) h1 h2 h3
theorem FrB.ex {lf lr dn : Addr} {H H1 : Hp} (a : Ex H H1) : FrB lf lr dn H H1 := fun c o h _ _ _ => a c o h
/-- tuples stand -/
def TEx (H H' : Hp) : Prop := ∀ a o, H a = some o → (∃ xs, o = .tup xs) ∨ (∃ ob u, o = .frz ob u) → H' a = some o
section
variable {K : PySem.W.Frag} {H H' : Hp}
theorem TEx.of (e : Ex H H') : TEx H H' := fun a o h _ => e a o h
theorem TEx.trans {H1 H2 H3 : Hp} (e : TEx H1 H2) (e' : TEx H2 H3) : TEx H1 H3 := fun a o h q => e' a o (e a o h q) q
theorem tex_t {a : Addr} {xs : List V} (e : TEx H H') (h : SqT K H a xs) : SqT K H' a xs := by
  rcases h with (h | ⟨o, h⟩) | h
  · exact .inl (.inl (e _ _ h (.inl ⟨_, rfl⟩)))
  · exact .inl (.inr ⟨o, e _ _ h (.inr ⟨_, _, rfl⟩)⟩)
  · exact .inr h
mutual
theorem Da.pmono (e : TEx H H') : ∀ {v : V} {d : PyData}, Da K H v d → pl d = true → Da K H' v d
  | _, _, .bl b, _ => .bl b
  | _, _, .int i, _ => .int i
  | _, _, .str x, _ => .str x
  | _, _, .lst h a, n => nomatch n
  | _, _, .tup h a, n => .tup (tex_t e h) (DaAll.pmono e a n)
  | _, _, .env h q, n => nomatch n
  | _, _, .scr h q, n => nomatch n
theorem DaAll.pmono (e : TEx H H') : ∀ {vs : List V} {ds : List PyData}, DaAll K H vs ds → pls ds = true → DaAll K H' vs ds
  | _, _, .nil, _ => .nil
  | _, _, .cons h t, n => by
    have n' : (_ && _) = true := n
    rw [Bool.and_eq_true] at n'
    exact .cons (Da.pmono e h n'.1) (DaAll.pmono e t n'.2)
end
theorem pls_map {α : Type} {f : α → PyData} (h : ∀ x, pl (f x) = true) : ∀ xs : List α, pls (xs.map f) = true
  | [] => rfl
  | x :: r => by
    show (pl (f x) && pls (r.map f)) = true
    rw [h x, pls_map h r] <;> rfl
theorem TEx.updL {l : Addr} {xs : List V} {o : HO} (h : H l = some (.lst xs)) : TEx H (upd H l o) := fun a u ha hu => by
  rw [upd_ne (ne_of ha h (by rcases hu with ⟨ys, rfl⟩ | ⟨ob, w, rfl⟩ <;> (intro z; cases z)))]
  exact ha
theorem TEx.updD {l : Addr} {kvs : List (List Key × V)} {o : HO} (h : H l = some (.dT kvs)) : TEx H (upd H l o) := fun a u ha hu => by
  rw [upd_ne (ne_of ha h (by rcases hu with ⟨ys, rfl⟩ | ⟨ob, w, rfl⟩ <;> (intro z; cases z)))]
  exact ha
theorem BookAt.tex {C p dx lf lr dn : Addr} {B : Bk} (b : BookAt K C H p dx lf lr dn B) (e : FrB lf lr dn H H') : TEx H H' := fun a o h ho => by
  obtain ⟨vf, hf, _⟩ := b.fs
  obtain ⟨vr, hr, _⟩ := b.rs
  have nt : ∀ {q : Addr} {u : HO}, H q = some u → (∀ xs, u ≠ .tup xs) → (∀ ob w, u ≠ .frz ob w) → a ≠ q := fun hq h1 h2 => ne_of h hq (by
    rcases ho with ⟨xs, rfl⟩ | ⟨ob, w, rfl⟩
    · exact fun z => h1 xs z.symm
    · exact fun z => h2 ob w z.symm)
  exact e a o h (nt hf (fun _ z => nomatch z) (fun _ _ z => nomatch z)) (nt hr (fun _ z => nomatch z) (fun _ _ z => nomatch z)) (nt b.ns (fun _ z => nomatch z) (fun _ _ z => nomatch z))
theorem BookAt.mono {C p dx lf lr dn : Addr} {B : Bk} (b : BookAt K C H p dx lf lr dn B) (e : Ex H H') : BookAt K C H' p dx lf lr dn B := by
  obtain ⟨vf, hf, hf2⟩ := b.fs
  obtain ⟨vr, hr, hr2⟩ := b.rs
  exact ⟨e _ _ b.ob, b.ne, ⟨vf, e _ _ hf, hf2.mono e⟩, ⟨vr, e _ _ hr, hr2.mono e⟩, e _ _ b.ns⟩
end
theorem rowD_pl (r : Rw) : pl (rowD r) = true := rfl
/-! ### put -/
/-- what stands of the class RowBook -/
structure ClsB (K : PySem.W.Frag) (mg : Str → Option Value) (C : Addr) : Prop where
  cl : Cls K C
  nF : NoAttr K C "facts"
  nR : NoAttr K C "rows"
  nN : NoAttr K C "_numbers"
  mgC : mg "RowBook" = some (.ref C)
section
variable {P : Program} {w : World} {K : PySem.W.Frag} {mg : Str → Option Value} {base : Heap} {C : Addr}
abbrev s_RowBook_put : Stmt := inClass (topS 26) 1
abbrev N_RowBook_put : List Str := ["self", "word", "left", "right", "row"]
theorem sc_RowBook_put : FnScope N_RowBook_put ["self", "word", "left", "right"] (defScope s_RowBook_put) := ⟨rfl, rfl, rfl, by decide +kernel, rfl, by decide +kernel, by decide +kernel⟩
def spPut (K : PySem.W.Frag) (C : Addr) : Sp := fun vs H Q _ => ∃ (p dx lf lr dn : Addr) (B : Bk) (r : Rw), vs = [.ref p, .str r.1, .int r.2.1, .int r.2.2] ∧ BookAt K C H p dx lf lr dn B ∧ B.rows.length < 90000 ∧
  ∀ H', BookAt K C H' p dx lf lr dn (B.put r) → FrB lf lr dn H H' → Q (.int ((ixR B.rows r : Nat) : Int)) H'
theorem ok_put (T : ClsB K mg C) (Z_len : mg "len" = none) (D : DefM K C "put" "RowBook.put" s_RowBook_put ["self", "word", "left", "right"]) : MthAt P w K mg base C 1 "put" ["self", "word", "left", "right"] (spPut K C) := by
  refine D.ok sc_RowBook_put (fun vs H Q E ⟨p, dx, lf, lr, dn, B, r, h, _⟩ => by rw [h] <;> rfl) fun f0 cdv A outer s H vs Q E hr h => ?_
  obtain ⟨p, dx, lf, lr, dn, B, r, rfl, hB, hlen, q⟩ := h
  refine ⟨_, (pss_cons (ps_set (i := 4) sc_RowBook_put.nd rfl (by first | exact Or.inl rfl | exact Or.inr rfl) (pe_tup (pa_cons (pv 1) (pa_cons (pv 2) (pa_cons (pv 3) pa_nil)))))
      (pss_cons (ps_if (pt_cmp (pc_dnotin (hu_of hr) (pv 4) (pe_fld (pv 0) rfl))) (pss_cons (ps_dput (hu_of hr) (pe_fld (pv 0) rfl) (pv 4) (pe_callB call_lenS (by rfl) Z_len PySem.boot_len (pa_cons (pe_fld (pv 0) rfl) pa_nil)) rfl)
      (pss_one (ps_expr (pe_bm PySem.F.plainAttrs_list PySem.F.slot_list_append PySem.F.type_list_append mt_append (pe_fld (pv 0) rfl) (pa_cons (pv 4) pa_nil))))) pss_nil)
      (pss_one (ps_ret (pe_dget (hu_of hr) (pe_fld (pv 0) rfl) (pv 4) (fun _ _ => rfl)))))), ?_⟩
  try dsimp only [cxOf]
  -- row = (word, left, right)
  refine ⟨_, rfl, _, rfl, _, rfl, (by show 3 ≤ sizeLine; decide), fun t ht => ?_⟩
  have e1 : Ex H (upd H t (.tup ((rowKey r).map kV))) := Ex.new ht
  have hB1 := hB.mono e1
  have ht1 : (upd H t (.tup ((rowKey r).map kV))) t = some (.tup ((rowKey r).map kV)) := upd_same
  show tSeq _ _ _ [some (.ref p), some (.str r.1), some (.int r.2.1), some (.int r.2.2), some (.ref t)] (upd H t (.tup ((rowKey r).map kV)))
  generalize upd H t (.tup ((rowKey r).map kV)) = H1 at e1 hB1 ht1
  obtain ⟨vr, hvr, hvd⟩ := hB1.rs
  -- if row not in self._numbers
  have g := DGet.t (k := rowKey r) hB1.ns ht1
  rw [numK_val, Nat.zero_add] at g
  refine ⟨_, rfl, _, rfl, p, C, dx, _, _, rfl, hB1.ob, T.cl, T.nN, lk_numbers _ _ _, dn, _, rfl, g, _, rfl, ?_⟩
  by_cases hm : r ∈ B.rows
  · rw [if_pos hm]
    rw [if_pos hm] at g
    refine iteF ?_
    refine ⟨_, rfl, p, C, dx, _, _, rfl, hB1.ob, T.cl, T.nN, lk_numbers _ _ _, _, rfl, dn, _, rfl, g, ?_⟩
    have ep : B.put r = B := if_pos hm
    exact q H1 (by rw [ep]; exact hB1) (FrB.ex e1)
  · rw [if_neg hm]
    refine iteT ?_
    have ep : B.put r = { facts := B.facts, rows := B.rows ++ [r] } := if_neg hm
    have ei : ixR B.rows r = B.rows.length := List.idxOf_eq_length hm
    have npd : p ≠ dn := ne_of hB1.ob hB1.ns (by intro z; cases z)
    have nld : lr ≠ dn := ne_of hvr hB1.ns (by intro z; cases z)
    have ntd : t ≠ dn := ne_of ht1 hB1.ns (by intro z; cases z)
    have npl : p ≠ lr := ne_of hB1.ob hvr (by intro z; cases z)
    have ntl : t ≠ lr := ne_of ht1 hvr (by intro z; cases z)
    have hlv : vr.length = B.rows.length := by rw [hvd.length, List.length_map]
    -- self._numbers[row] = len(self.rows)
    refine ⟨_, rfl, p, C, dx, _, _, rfl, hB1.ob, T.cl, T.nR, lk_rows _ _ _, lr, _, rfl, .inl (SqL.of hvr), ?_⟩
    refine ⟨_, rfl, p, C, dx, _, _, rfl, hB1.ob, T.cl, T.nN, lk_numbers _ _ _, _, rfl, dn, _, rfl, DPut.t (k := rowKey r) hB1.ns ht1 (by rw [numK_len]; exact sz_lt (by omega)), ?_⟩
    have epk : putK (numK 0 B.rows) (rowKey r) (.int ((vr.length : Nat) : Int)) = numK 0 (B.rows ++ [r]) := by
      rw [putK_new _ (by rw [numK_val, if_neg hm]), numK_snoc, hlv, Nat.zero_add]
    rw [epk]
    have hD2 : (upd H1 dn (.dT (numK 0 (B.rows ++ [r])))) dn = some (.dT (numK 0 (B.rows ++ [r]))) := upd_same
    have hp2 : (upd H1 dn (.dT (numK 0 (B.rows ++ [r])))) p = some (.ins C dx (bookF lf lr dn)) := by rw [upd_ne npd]; exact hB1.ob
    have hr2 : (upd H1 dn (.dT (numK 0 (B.rows ++ [r])))) lr = some (.lst vr) := by rw [upd_ne nld]; exact hvr
    have hT2 : (upd H1 dn (.dT (numK 0 (B.rows ++ [r])))) t = some (.tup ((rowKey r).map kV)) := by rw [upd_ne ntd]; exact ht1
    have te2 : TEx H1 (upd H1 dn (.dT (numK 0 (B.rows ++ [r])))) := TEx.updD hB1.ns
    have fr2 : FrB lf lr dn H1 (upd H1 dn (.dT (numK 0 (B.rows ++ [r])))) := fun b o h _ _ h3 => by rw [upd_ne h3]; exact h
    obtain ⟨vf, hvf, hfd⟩ := hB1.fs
    have nfd : lf ≠ dn := ne_of hvf hB1.ns (by intro z; cases z)
    have hf2 : (upd H1 dn (.dT (numK 0 (B.rows ++ [r])))) lf = some (.lst vf) := by rw [upd_ne nfd]; exact hvf
    generalize upd H1 dn (.dT (numK 0 (B.rows ++ [r]))) = H2 at hD2 hp2 hr2 hT2 te2 fr2 hf2
    -- self.rows.append(row)
    refine ⟨_, rfl, p, C, dx, _, _, rfl, hp2, T.cl, T.nR, lk_rows _ _ _, .inl ⟨rfl, _, SqL.of hr2⟩, _, rfl, lr, vr, _, rfl, rfl, hr2, sz_lt (by omega), ?_⟩
    have te3 : TEx H2 (upd H2 lr (.lst (vr ++ [.ref t]))) := TEx.updL hr2
    have hD3 : (upd H2 lr (.lst (vr ++ [.ref t]))) dn = some (.dT (numK 0 (B.rows ++ [r]))) := by rw [upd_ne nld.symm]; exact hD2
    have hp3 : (upd H2 lr (.lst (vr ++ [.ref t]))) p = some (.ins C dx (bookF lf lr dn)) := by rw [upd_ne npl]; exact hp2
    have hT3 : (upd H2 lr (.lst (vr ++ [.ref t]))) t = some (.tup ((rowKey r).map kV)) := by rw [upd_ne ntl]; exact hT2
    have hf3 : (upd H2 lr (.lst (vr ++ [.ref t]))) lf = some (.lst vf) := by rw [upd_ne hB.ne]; exact hf2
    have hr3 : (upd H2 lr (.lst (vr ++ [.ref t]))) lr = some (.lst (vr ++ [.ref t])) := upd_same
    have fr3 : FrB lf lr dn H2 (upd H2 lr (.lst (vr ++ [.ref t]))) := fun b o h _ h2 _ => by rw [upd_ne h2]; exact h
    generalize upd H2 lr (.lst (vr ++ [.ref t])) = H3 at te3 hD3 hp3 hT3 hf3 hr3 fr3
    -- return self._numbers[row]
    have g3 := DGet.t (k := rowKey r) hD3 hT3
    rw [numK_val, if_pos (List.mem_append.mpr (.inr (List.mem_singleton.mpr rfl))), Nat.zero_add] at g3
    refine ⟨_, rfl, p, C, dx, _, _, rfl, hp3, T.cl, T.nN, lk_numbers _ _ _, _, rfl, dn, _, rfl, g3, ?_⟩
    have ei2 : ixR (B.rows ++ [r]) r = ixR B.rows r := by
      rw [ei]
      unfold ixR
      rw [List.idxOf_append, if_neg hm]
      have : List.idxOf r [r] = 0 := List.idxOf_cons_self
      omega
    rw [ei2]
    refine q H3 ⟨hp3, hB.ne, ⟨vf, hf3, ?_⟩, ⟨_, hr3, ?_⟩, by rw [ep]; exact hD3⟩ ((FrB.ex e1).trans (fr2.trans fr3))
    · rw [ep]
      exact hfd.pmono (te2.trans te3) (pls_map Fm.pl _)
    · rw [ep, List.map_append]
      exact (hvd.pmono (te2.trans te3) (pls_map rowD_pl _)).append (.cons (.tup (SqT.of hT3) (.cons (.str _) (.cons (.int _) (.cons (.int _) .nil)))) .nil)
end
end K27

/-! K27: lassoproof/formulas/rows.py, further. -/
namespace K27
open PySem PySem.Spec PyProof.Rows L2 Evl
local macro_rules | `(tactic| walk_at "ev") => `(tactic| first
  | exact ev_c
  | exact ev_var rfl
  | (refine' et_test ?h; (case h => walk_at "ev"))
  | (refine' et_B ?h; (case h => walk_at "ev"))
  | (refine' et_not ?h; (case h => walk_at "ev"))
  | (refine' et_and ?a (fun _ => ?b); (case a => walk_at "ev"); (case b => walk_at "ev"))
  | (refine' et_or ?a (fun _ => ?b); (case a => walk_at "ev"); (case b => walk_at "ev"))
  | (refine' ev_op ?a ?b (rv_eq ?c); (case a => walk_at "ev"); (case b => walk_at "ev"); (case c => rfl))
  | (refine' ev_op ?a ?b rv_I0; (case a => walk_at "ev"); (case b => walk_at "ev"))
  | (refine' ev_inU ?a ?b ?c ?d; (case a => walk_at "ev"); (case b => (refine' eu_tup ?x ?y; (case x => walk_at "ev"); (case y => decide))); (case c => rfl); (case d => rfl))
  | (refine' ev_str (e_ixT ?a ?b ?c); (case a => walk_at "ed"); (case b => walk_at "ev"); (case c => first | exact at0 | exact at1 | exact at2))
  | (refine' ev_int (e_ixT ?a ?b ?c); (case a => walk_at "ed"); (case b => walk_at "ev"); (case c => first | exact at0 | exact at1 | exact at2))
  | exact Evl.ea_nil
  | (refine' Evl.ea_cons ?a ?b; (case a => walk_at "ev"); (case b => walk_at "ev")))
local macro_rules | `(tactic| walk_at "ed") => `(tactic| first
  | exact e_var rfl (by assumption)
  | exact e_var rfl (by constructor)
  | exact K27.ea_nil
  | (refine' K27.ea_cons ?a ?b; (case a => walk_at "ed"); (case b => walk_at "ed"))
  | (refine' e_tup ?a ?b; (case a => walk_at "ed"); (case b => (simp only [List.length_cons, List.length_nil, List.length_append]; omega)))
  | (refine' e_ixT ?a ?b ?c; (case a => walk_at "ed"); (case b => walk_at "ev"); (case c => first | exact at0 | exact at1 | exact at2))
  | (refine' e_ev ?a ?b; (case a => walk_at "ev"); (case b => first | exact .str _ | exact .int _ | exact .bl _ | assumption)))
theorem lays_map {α : Type} {f : α → PyData} : ∀ {xs : List α}, (∀ x ∈ xs, PyData.canLay0 (f x) = true) → PyData.canLayAll0 (xs.map f) = true
  | [], _ => lay_nil
  | x :: r, h => lay_cons (h x List.mem_cons_self) (lays_map fun y hy => h y (List.mem_cons_of_mem _ hy))
theorem depths_map {α : Type} {f : α → PyData} {n : Nat} : ∀ {xs : List α}, (∀ x ∈ xs, (f x).depth ≤ n) → PyData.depthAll (xs.map f) ≤ n
  | [], _ => by simp [PyData.depthAll]
  | x :: r, h => by
    have h1 := h x List.mem_cons_self
    have h2 := depths_map (xs := r) fun y hy => h y (List.mem_cons_of_mem _ hy)
    simp only [List.map_cons, PyData.depthAll]
    omega
theorem facts_shaped {N : List Str} (hN : NamesOk N) {fs : List Fm} (h : ∀ c ∈ fs, isCmp c = true ∧ c.fine N) : SeqAt.shaped (.list (fs.map Fm.d)) = true := by
  have h1 : PyData.canLay0 (.list (fs.map Fm.d)) = true := by
    simp only [PyData.canLay0]
    exact lays_map fun c hc => Fm.lay hN c (h c hc).2
  have h2 : PyData.depth (.list (fs.map Fm.d)) ≤ 64 := by
    have := depths_map (f := Fm.d) (n := 6) (xs := fs) fun c hc => by
      have a := Fm.depth c (h c hc).2
      have b : c.dp = 1 := by
        have e := (h c hc).1
        cases c <;> first | rfl | cases e
      omega
    simp only [PyData.depth]
    omega
  show (PyData.canLay0 _ && decide _) = true
  rw [h1, decide_eq_true h2] <;> rfl
theorem any_facts {c : Fm} (hc : isCmp c = true) : ∀ {fs : List Fm}, (∀ x ∈ fs, isCmp x = true) → ((fs.map Fm.d).any fun z => PyData.eqv z c.d) = decide (c ∈ fs)
  | [], _ => rfl
  | a :: r, h => by
    rw [List.map_cons, List.any_cons, any_facts hc fun x hx => h x (List.mem_cons_of_mem _ hx), cmp_eqv (h a List.mem_cons_self) hc]
    by_cases e : a = c
    · subst e; simp
    · have e' : ¬ c = a := fun z => e z.symm
      simp [e, e']
section
variable {P : Program} {w : World} {K : PySem.W.Frag} {mg : Str → Option Value} {base : Heap} {C : Addr}
abbrev s_RowBook_put_fact : Stmt := inClass (topS 26) 2
abbrev N_RowBook_put_fact : List Str := ["self", "comparison"]
theorem sc_RowBook_put_fact : FnScope N_RowBook_put_fact ["self", "comparison"] (defScope s_RowBook_put_fact) := ⟨rfl, rfl, rfl, by decide +kernel, rfl, by decide +kernel, by decide +kernel⟩
def spFact (K : PySem.W.Frag) (C : Addr) (N : List Str) : Sp := fun vs H Q _ => ∃ (p dx lf lr dn : Addr) (B : Bk) (v : V) (c : Fm), vs = [.ref p, v] ∧ Da K H v c.d ∧ isCmp c = true ∧ c.fine N ∧ FactsOk N B ∧ BookAt K C H p dx lf lr dn B ∧ B.rows.length < 90000 ∧ B.facts.length < 90000 ∧
  ∀ H', BookAt K C H' p dx lf lr dn (B.fact c).1 → FrB lf lr dn H H' → Q (.int (((B.fact c).2 : Nat) : Int)) H'
theorem ok_put_fact {N : List Str} (hN : NamesOk N) (T : ClsB K mg C) (G_put : MthAt P w K mg base C 1 "put" ["self", "word", "left", "right"] (spPut K C)) (D : DefM K C "put_fact" "RowBook.put_fact" s_RowBook_put_fact ["self", "comparison"]) :
    MthAt P w K mg base C 2 "put_fact" ["self", "comparison"] (spFact K C N) := by
  refine D.ok sc_RowBook_put_fact (fun vs H Q E ⟨p, dx, lf, lr, dn, B, v, c, h, _⟩ => by rw [h] <;> rfl) fun f0 cdv A outer s H vs Q E hr h => ?_
  obtain ⟨p, dx, lf, lr, dn, B, v, c, rfl, hv, hc, hf, hok, hB, hlen, hlenf, q⟩ := h
  have C_RowBook := T.cl
  have HU : (cxOf CX0 P w K mg base N_RowBook_put_fact "RowBook.put_fact" (defScope s_RowBook_put_fact) f0 cdv A outer s H E).nox.A.units + 65 < cLine := by
    show (A.deeper _).units + 65 < cLine
    have := hr.un
    omega
  refine ⟨_, (pss_cons (ps_if (pt_cmpR (op_notInD HU) (pv 1) (pe_fld (pv 0) rfl) (by rfl)) (pss_one (ps_expr (pe_bm PySem.F.plainAttrs_list PySem.F.slot_list_append PySem.F.type_list_append mt_append (pe_fld (pv 0) rfl) (pa_cons (pv 1) pa_nil)))) pss_nil)
      (pss_one (ps_ret (pe_methX C_RowBook G_put hr (pv 0) (pa_cons pe_str (pa_cons (pe_bm PySem.F.plainAttrs_list PySem.F.slot_list_index PySem.F.type_list_index (mt_indexD HU) (pe_fld (pv 0) rfl) (pa_cons (pv 1) pa_nil)) (pa_cons (pe_un un_neg pe_int) pa_nil))))))), ?_⟩
  try dsimp only [cxOf]
  obtain ⟨vf, hvf, hfd⟩ := hB.fs
  have shc : SeqAt.shaped c.d = true := Fm.shaped hN hf (by cases c <;> first | (show 1 ≤ 50; decide) | cases hc)
  -- behind the first statement: the fact is there
  have rest : ∀ (B' : Bk) (H2 : Hp), B'.rows = B.rows → B'.facts[ixF B.facts c]? = some c → (∀ m, m < ixF B.facts c → ∀ x, B'.facts[m]? = some x → x ≠ c) → (∀ x ∈ B'.facts, isCmp x = true ∧ x.fine N) → BookAt K C H2 p dx lf lr dn B' → Da K H2 v c.d → FrB lf lr dn H H2 → B' = B.putFact c →
      tRet (tMeth C ("put" : Str) (spPut K C) [] E0 (tVar 0) (tCons (tC (.str "fact")) (tCons (tBM K "list" (rIndexD K) (tFld K (tVar 0) "facts") (tCons (tVar 1) tNil)) (tCons (tUn (rU fun i => .int (-i)) (tC (.int 1))) tNil)))) { nx := fun _ H' => Q .non H', rt := Q } [some (.ref p), some v] H2 := by
    intro B' H2 er hix hno hall hB2 hv2 fr eB
    obtain ⟨vf2, hvf2, hfd2⟩ := hB2.fs
    refine ⟨_, rfl, p, dx, _, rfl, hB2.ob, lk_none _ _ _ (by decide +kernel) (by decide +kernel) (by decide +kernel), ?_⟩
    refine ⟨_, rfl, p, C, dx, _, _, rfl, hB2.ob, T.cl, T.nF, lk_facts _ _ _, .inl ⟨rfl, _, SqL.of hvf2⟩, _, rfl, lf, v, c.d, B'.facts.map Fm.d, ixF B.facts c, c.d, rfl, rfl, .lst (SqL.of hvf2) (hfd2.dp (pls_map Fm.pl _)), hv2.dp c.pl, facts_shaped hN hall, shc, ?_, ?_, ?_, ?_⟩
    · rw [List.getElem?_map, hix] <;> rfl
    · rw [cmp_eqv hc hc]
      exact decide_eq_true rfl
    · intro m z hm hz
      rw [List.getElem?_map] at hz
      cases e : B'.facts[m]? with
      | none =>
        rw [e] at hz
        cases hz
      | some x =>
        rw [e] at hz
        cases hz
        rw [cmp_eqv (hall x (List.mem_of_getElem? e)).1 hc]
        exact decide_eq_false (hno m hm x e)
    · refine ⟨1, rfl, ?_⟩
      refine ⟨p, dx, lf, lr, dn, B', (("fact", ((ixF B.facts c : Nat) : Int), -1) : Rw), rfl, hB2, by rw [er]; exact hlen, fun H3 hB3 fr3 => ?_⟩
      have z := q H3 (by subst eB; exact hB3) (fr.trans fr3)
      rw [er]
      exact z
  by_cases hm : c ∈ B.facts
  · -- it stands there
    have eB : B.putFact c = B := if_pos hm
    have hi := List.idxOf_lt_length_of_mem hm
    refine ⟨_, rfl, _, rfl, p, C, dx, _, _, rfl, hB.ob, T.cl, T.nF, lk_facts _ _ _, ?_⟩
    refine ⟨c.d, B.facts.map Fm.d, hv.dp c.pl, .lst (SqL.of hvf) (hfd.dp (pls_map Fm.pl _)), shc, facts_shaped hN hok, _, rfl, ?_⟩
    rw [any_facts hc fun x hx => (hok x hx).1, decide_eq_true hm]
    refine iteF ?_
    refine rest B H rfl ?_ (fun m hml x hx z => ?_) hok hB hv FrB.refl eB.symm
    · show B.facts[List.idxOf c B.facts]? = some c
      rw [List.getElem?_eq_getElem hi]
      exact congrArg some (List.getElem_idxOf hi)
    · subst z
      obtain ⟨h1, h2⟩ := List.getElem?_eq_some_iff.mp hx
      have := List.not_of_lt_findIdx (p := fun a => a == x) (xs := B.facts) (i := m) hml
      rw [h2] at this
      exact absurd (beq_self_eq_true x) (by rw [this]; exact Bool.false_ne_true)
  · have eB : B.putFact c = { facts := B.facts ++ [c], rows := B.rows } := if_neg hm
    have ei : ixF B.facts c = B.facts.length := List.idxOf_eq_length hm
    refine ⟨_, rfl, _, rfl, p, C, dx, _, _, rfl, hB.ob, T.cl, T.nF, lk_facts _ _ _, ?_⟩
    refine ⟨c.d, B.facts.map Fm.d, hv.dp c.pl, .lst (SqL.of hvf) (hfd.dp (pls_map Fm.pl _)), shc, facts_shaped hN hok, _, rfl, ?_⟩
    rw [any_facts hc fun x hx => (hok x hx).1, decide_eq_false hm]
    refine iteT ?_
    have hlv : vf.length = B.facts.length := by rw [hfd.length, List.length_map]
    refine ⟨_, rfl, p, C, dx, _, _, rfl, hB.ob, T.cl, T.nF, lk_facts _ _ _, .inl ⟨rfl, _, SqL.of hvf⟩, _, rfl, lf, vf, _, rfl, rfl, hvf, sz_lt (by omega), ?_⟩
    have te : TEx H (upd H lf (.lst (vf ++ [v]))) := TEx.updL hvf
    obtain ⟨vr, hvr, hrd⟩ := hB.rs
    have npl : p ≠ lf := ne_of hB.ob hvf (by intro z; cases z)
    have ndl : dn ≠ lf := ne_of hB.ns hvf (by intro z; cases z)
    refine rest (B.putFact c) _ (by rw [eB]) ?_ (fun m hml x hx z => ?_) (FactsOk.putFact hok ⟨hc, hf⟩) ⟨by rw [upd_ne npl]; exact hB.ob, hB.ne, ⟨_, upd_same, ?_⟩, ⟨vr, by rw [upd_ne hB.ne.symm]; exact hvr, ?_⟩, ?_⟩ (hv.pmono te c.pl) (fun b o h h1 _ _ => by rw [upd_ne h1]; exact h) rfl
    · rw [eB, ei]
      simp
    · subst z
      rw [eB] at hx
      rw [ei] at hml
      rw [List.getElem?_append_left hml] at hx
      exact hm (List.mem_of_getElem? hx)
    · rw [eB, List.map_append]
      exact (hfd.pmono te (pls_map Fm.pl _)).append (.cons (hv.pmono te c.pl) .nil)
    · rw [eB]
      exact hrd.pmono te (pls_map rowD_pl _)
    · rw [upd_ne ndl, eB]
      exact hB.ns
end
end K27

/-! K27: lassoproof/formulas/rows.py, its end. -/
namespace K27
open PySem PySem.Spec PyProof.Rows L2 Evl
local macro_rules | `(tactic| walk_at "ev") => `(tactic| first
  | exact ev_c
  | exact ev_var rfl
  | (refine' et_test ?h; (case h => walk_at "ev"))
  | (refine' et_B ?h; (case h => walk_at "ev"))
  | (refine' et_not ?h; (case h => walk_at "ev"))
  | (refine' et_and ?a (fun _ => ?b); (case a => walk_at "ev"); (case b => walk_at "ev"))
  | (refine' et_or ?a (fun _ => ?b); (case a => walk_at "ev"); (case b => walk_at "ev"))
  | (refine' ev_op ?a ?b (rv_eq ?c); (case a => walk_at "ev"); (case b => walk_at "ev"); (case c => rfl))
  | (refine' ev_op ?a ?b rv_I0; (case a => walk_at "ev"); (case b => walk_at "ev"))
  | (refine' ev_inU ?a ?b ?c ?d; (case a => walk_at "ev"); (case b => (refine' eu_tup ?x ?y; (case x => walk_at "ev"); (case y => decide))); (case c => rfl); (case d => rfl))
  | (refine' ev_str (e_ixT ?a ?b ?c); (case a => walk_at "ed"); (case b => walk_at "ev"); (case c => first | exact at0 | exact at1 | exact at2))
  | (refine' ev_int (e_ixT ?a ?b ?c); (case a => walk_at "ed"); (case b => walk_at "ev"); (case c => first | exact at0 | exact at1 | exact at2))
  | exact Evl.ea_nil
  | (refine' Evl.ea_cons ?a ?b; (case a => walk_at "ev"); (case b => walk_at "ev")))
local macro_rules | `(tactic| walk_at "ed") => `(tactic| first
  | exact e_var rfl (by assumption)
  | exact e_var rfl (by constructor)
  | exact K27.ea_nil
  | (refine' K27.ea_cons ?a ?b; (case a => walk_at "ed"); (case b => walk_at "ed"))
  | (refine' e_tup ?a ?b; (case a => walk_at "ed"); (case b => (simp only [List.length_cons, List.length_nil, List.length_append]; omega)))
  | (refine' e_ixT ?a ?b ?c; (case a => walk_at "ed"); (case b => walk_at "ev"); (case c => first | exact at0 | exact at1 | exact at2))
  | (refine' e_ev ?a ?b; (case a => walk_at "ev"); (case b => first | exact .str _ | exact .int _ | exact .bl _ | assumption)))
section
variable {P : Program} {w : World} {K : PySem.W.Frag} {mg : Str → Option Value} {base : Heap} {C : Addr}
abbrev s_RowBook_put_formula : Stmt := inClass (topS 26) 3
abbrev N_RowBook_put_formula : List Str := ["self", "formula", "word", "left", "right"]
theorem sc_RowBook_put_formula : FnScope N_RowBook_put_formula ["self", "formula"] (defScope s_RowBook_put_formula) := ⟨rfl, rfl, rfl, by decide +kernel, rfl, by decide +kernel, by decide +kernel⟩
def spFm (K : PySem.W.Frag) (C : Addr) (N : List Str) (n : Nat) : Sp := fun vs H Q _ => ∃ (p dx lf lr dn : Addr) (B : Bk) (v : V) (f : Fm), vs = [.ref p, v] ∧ Da K H v f.d ∧ f.fine N ∧ f.dp ≤ n ∧ FactsOk N B ∧ BookAt K C H p dx lf lr dn B ∧ B.rows.length + f.sz ≤ 50000 ∧ B.facts.length + f.sz ≤ 50000 ∧
  ∀ H', BookAt K C H' p dx lf lr dn (Bk.fm f B).1 → FrB lf lr dn H H' → Q (.int (((Bk.fm f B).2 : Nat) : Int)) H'
theorem ok_put_formula {N : List Str} (T : ClsB K mg C) (C_COMPARISONS_rows : Cst K mg "COMPARISONS_rows" (.tuple (["equal", "below", "upto"].map fun x : String => .str x))) (Z_len : mg "len" = none)
    (G_put : MthAt P w K mg base C 1 "put" ["self", "word", "left", "right"] (spPut K C)) (G_put_fact : MthAt P w K mg base C 2 "put_fact" ["self", "comparison"] (spFact K C N))
    (D : DefM K C "put_formula" "RowBook.put_formula" s_RowBook_put_formula ["self", "formula"]) : ∀ n : Nat, MthAt P w K mg base C (n + 2) "put_formula" ["self", "formula"] (spFm K C N n)
  | 0 => MthAt.none D fun vs H Q E h => by
    obtain ⟨p, dx, lf, lr, dn, B, v, f, _, _, _, h, _⟩ := h
    have := dp_pos f
    omega
  | n + 1 => by
    have G_put_formula := ok_put_formula T C_COMPARISONS_rows Z_len G_put G_put_fact D n
    obtain ⟨aC, h_COMPARISONS_rows, dC⟩ := C_COMPARISONS_rows
    have dC' : ∀ H, Da K H (.ref aC) (.tuple ((["equal", "below", "upto"].map Str.ofString).map PyData.str)) := dC
    have C_RowBook := T.cl
    refine D.ok sc_RowBook_put_formula (fun vs H Q E ⟨p, dx, lf, lr, dn, B, v, f, h, _⟩ => by rw [h] <;> rfl) fun f0 cdv A outer s H vs Q E hr h => ?_
    obtain ⟨p, dx, lf, lr, dn, B, v, f, rfl, hv, hf, hd, hok, hB, hlen, hlenf, q⟩ := h
    refine ⟨_, (pss_cons (ps_set (i := 2) sc_RowBook_put_formula.nd rfl (by first | exact Or.inl rfl | exact Or.inr rfl) (pe_ix ix_tup (pv 1) pe_int (fun _ _ => rfl)))
      (pss_cons (ps_if (PW.pt (pw_or (pt_cmpR op_eq (pv 2) pe_str (nomark _)) (pw_or1 (pt_cmpR op_eq (pv 2) pe_str (nomark _))))) (pss_one (ps_ret (pe_methX C_RowBook G_put hr (pv 0) (pa_cons (pv 2) (pa_cons (pe_un un_neg pe_int) (pa_cons (pe_un un_neg pe_int) pa_nil)))))) pss_nil)
      (pss_cons (ps_if (pt_cmpR op_in_seq (pv 2) (pe_globR h_COMPARISONS_rows) (by rfl)) (pss_one (ps_ret (pe_methX C_RowBook G_put_fact hr (pv 0) (pa_cons (pv 1) pa_nil)))) pss_nil)
      (pss_cons (ps_set (i := 3) sc_RowBook_put_formula.nd rfl (by first | exact Or.inl rfl | exact Or.inr rfl) (pe_methX C_RowBook G_put_formula hr (pv 0) (pa_cons (pe_ix ix_tup (pv 1) pe_int (fun _ _ => rfl)) pa_nil)))
      (pss_cons (ps_set (i := 4) sc_RowBook_put_formula.nd rfl (by first | exact Or.inl rfl | exact Or.inr rfl) (pe_un un_neg pe_int))
      (pss_cons (ps_if (pt_cmpR op_eq (pe_callB call_lenS (by rfl) Z_len PySem.boot_len (pa_cons (pv 1) pa_nil)) pe_int (nomark _)) (pss_one (ps_set (i := 4) sc_RowBook_put_formula.nd rfl (by first | exact Or.inl rfl | exact Or.inr rfl) (pe_methX C_RowBook G_put_formula hr (pv 0) (pa_cons (pe_ix ix_tup (pv 1) pe_int (fun _ _ => rfl)) pa_nil)))) pss_nil)
      (pss_one (ps_ret (pe_methX C_RowBook G_put hr (pv 0) (pa_cons (pv 2) (pa_cons (pv 3) (pa_cons (pv 4) pa_nil)))))))))))), ?_⟩
    try dsimp only [cxOf]
    have lkm : ∀ m : Str, (m == "facts") = false → (m == "rows") = false → (m == "_numbers") = false → (bookF lf lr dn).lookup m = none := fun m => lk_none lf lr dn
    cases f with
    | tt =>
      refine b_asg (Ex.refl H) (by walk_at "ev") fun H1 e1 => ?_
      refine b_yes e1 (by walk_at "ev") (by decide +kernel) fun H2 e2 => ?_
      have hB2 := hB.mono e2
      refine ⟨_, rfl, p, dx, _, rfl, hB2.ob, lkm _ (by decide +kernel) (by decide +kernel) (by decide +kernel), ?_⟩
      refine ⟨_, rfl, 1, rfl, 1, rfl, p, dx, lf, lr, dn, B, rTT, rfl, hB2, by omega, fun H3 hB3 fr => q H3 hB3 ((FrB.ex e2).trans fr)⟩
    | ff =>
      refine b_asg (Ex.refl H) (by walk_at "ev") fun H1 e1 => ?_
      refine b_yes e1 (by walk_at "ev") (by decide +kernel) fun H2 e2 => ?_
      have hB2 := hB.mono e2
      refine ⟨_, rfl, p, dx, _, rfl, hB2.ob, lkm _ (by decide +kernel) (by decide +kernel) (by decide +kernel), ?_⟩
      refine ⟨_, rfl, 1, rfl, 1, rfl, p, dx, lf, lr, dn, B, rFF, rfl, hB2, by omega, fun H3 hB3 fr => q H3 hB3 ((FrB.ex e2).trans fr)⟩
    | cmp c t u =>
      refine b_asg (Ex.refl H) (by walk_at "ev") fun H1 e1 => ?_
      refine b_skip e1 (by walk_at "ev") (by cases c <;> decide +kernel) fun H2 e2 => ?_
      refine b_yes e2 (et_test (ev_inC (by walk_at "ev") dC')) (by cases c <;> decide +kernel) fun H3 e3 => ?_
      have hB3 := hB.mono e3
      refine ⟨_, rfl, p, dx, _, rfl, hB3.ob, lkm _ (by decide +kernel) (by decide +kernel) (by decide +kernel), ?_⟩
      have e : (Fm.cmp c t u).sz = 1 := rfl
      exact ⟨_, rfl, p, dx, lf, lr, dn, B, v, .cmp c t u, rfl, hv.mono e3, rfl, hf, hok, hB3, by omega, by omega, fun H4 hB4 fr => q H4 hB4 ((FrB.ex e3).trans fr)⟩
    | un o f =>
      have hd' : f.dp ≤ n := Nat.le_of_succ_le_succ hd
      have e : (Fm.un o f).sz = f.sz + 1 := rfl
      refine b_asg (Ex.refl H) (by walk_at "ev") fun H1 e1 => ?_
      refine b_skip e1 (by walk_at "ev") (by cases o <;> decide +kernel) fun H2 e2 => ?_
      refine b_skip e2 (et_test (ev_inC (by walk_at "ev") dC')) (by cases o <;> decide +kernel) fun H3 e3 => ?_
      have hB3 := hB.mono e3
      -- left = self.put_formula(formula[1])
      refine ⟨_, rfl, p, dx, _, rfl, hB3.ob, lkm _ (by decide +kernel) (by decide +kernel) (by decide +kernel), ?_⟩
      refine (K27.ea_cons (e_ixT (e_var rfl (hv.mono e3)) ev_c at1) K27.ea_nil) H3 (Ex.refl H3) _ fun vs4 H4 e4 r4 => ?_
      obtain ⟨v1, rfl, r1⟩ := r4.i1
      have lens := fm_len f B
      refine ⟨p, dx, lf, lr, dn, B, v1, f, rfl, r1, hf, hd', hok, hB3.mono e4, by omega, by omega, fun H5 hB5 fr5 => ?_⟩
      show tSeq (tAsg (tUn (rU fun i => .int (-i)) (tC (.int 1))) (gName 4)) _ _ [some (.ref p), some v, some (.str o.w), some (.int (((Bk.fm f B).2 : Nat) : Int)), none] H5
      have te5 := (hB3.mono e4).tex fr5
      have hv5 : Da K H5 v (Fm.un o f).d := (hv.mono (e3.trans e4)).pmono te5 (Fm.un o f).pl
      refine b_asg (Ex.refl H5) (ev_neg ev_c) fun H6 e6 => ?_
      refine b_skip e6 (et_test (ev_op (ev_lenD (ds := [.str o.w, f.d]) (.inr (e_var rfl hv5))) ev_c (rv_eq rfl))) (by show decide (V.int 2 = V.int 3) = false; decide +kernel) fun H7 e7 => ?_
      have hB7 := hB5.mono e7
      refine ⟨_, rfl, p, dx, _, rfl, hB7.ob, lkm _ (by decide +kernel) (by decide +kernel) (by decide +kernel), ?_⟩
      exact ⟨_, rfl, _, rfl, _, rfl, p, dx, lf, lr, dn, (Bk.fm f B).1, (o.w, (((Bk.fm f B).2 : Nat) : Int), -1), rfl, hB7, by omega, fun H8 hB8 fr8 => q H8 hB8 ((FrB.ex (e3.trans e4)).trans (fr5.trans ((FrB.ex e7).trans fr8)))⟩
    | bi o f g =>
      have hd' : f.dp ≤ n ∧ g.dp ≤ n := by
        have : max f.dp g.dp + 1 ≤ n + 1 := hd
        omega
      have e : (Fm.bi o f g).sz = f.sz + g.sz + 1 := rfl
      refine b_asg (Ex.refl H) (by walk_at "ev") fun H1 e1 => ?_
      refine b_skip e1 (by walk_at "ev") (by cases o <;> decide +kernel) fun H2 e2 => ?_
      refine b_skip e2 (et_test (ev_inC (by walk_at "ev") dC')) (by cases o <;> decide +kernel) fun H3 e3 => ?_
      have hB3 := hB.mono e3
      -- left = self.put_formula(formula[1])
      refine ⟨_, rfl, p, dx, _, rfl, hB3.ob, lkm _ (by decide +kernel) (by decide +kernel) (by decide +kernel), ?_⟩
      refine (K27.ea_cons (e_ixT (e_var rfl (hv.mono e3)) ev_c at1) K27.ea_nil) H3 (Ex.refl H3) _ fun vs4 H4 e4 r4 => ?_
      obtain ⟨v1, rfl, r1⟩ := r4.i1
      have lens := fm_len f B
      refine ⟨p, dx, lf, lr, dn, B, v1, f, rfl, r1, hf.1, hd'.1, hok, hB3.mono e4, by omega, by omega, fun H5 hB5 fr5 => ?_⟩
      show tSeq (tAsg (tUn (rU fun i => .int (-i)) (tC (.int 1))) (gName 4)) _ _ [some (.ref p), some v, some (.str o.w), some (.int (((Bk.fm f B).2 : Nat) : Int)), none] H5
      have te5 := (hB3.mono e4).tex fr5
      have hv5 : Da K H5 v (Fm.bi o f g).d := (hv.mono (e3.trans e4)).pmono te5 (Fm.bi o f g).pl
      refine b_asg (Ex.refl H5) (ev_neg ev_c) fun H6 e6 => ?_
      refine b_yes e6 (et_test (ev_op (ev_lenD (ds := [.str o.w, f.d, g.d]) (.inr (e_var rfl hv5))) ev_c (rv_eq rfl))) (by show decide (V.int 3 = V.int 3) = true; decide +kernel) fun H7 e7 => ?_
      have hB7 := hB5.mono e7
      -- right = self.put_formula(formula[2])
      refine ⟨_, rfl, p, dx, _, rfl, hB7.ob, lkm _ (by decide +kernel) (by decide +kernel) (by decide +kernel), ?_⟩
      refine (K27.ea_cons (e_ixT (e_var rfl (hv5.mono e7)) ev_c at2) K27.ea_nil) H7 (Ex.refl H7) _ fun vs8 H8 e8 r8 => ?_
      obtain ⟨v2, rfl, r2⟩ := r8.i1
      have lens2 := fm_len g (Bk.fm f B).1
      refine ⟨p, dx, lf, lr, dn, (Bk.fm f B).1, v2, g, rfl, r2, hf.2, hd'.2, hok.fm f hf.1, hB7.mono e8, by omega, by omega, fun H9 hB9 fr9 => ?_⟩
      refine ⟨_, rfl, p, dx, _, rfl, hB9.ob, lkm _ (by decide +kernel) (by decide +kernel) (by decide +kernel), ?_⟩
      exact ⟨_, rfl, _, rfl, _, rfl, p, dx, lf, lr, dn, (Bk.fm g (Bk.fm f B).1).1, (o.w, (((Bk.fm f B).2 : Nat) : Int), (((Bk.fm g (Bk.fm f B).1).2 : Nat) : Int)), rfl, hB9, by omega, fun H10 hB10 fr10 => q H10 hB10 ((FrB.ex (e3.trans e4)).trans (fr5.trans ((FrB.ex (e7.trans e8)).trans (fr9.trans fr10))))⟩
/-! ### RowBook() -/
abbrev s_RowBook___init__ : Stmt := inClass (topS 26) 0
abbrev N_RowBook___init__ : List Str := ["self"]
theorem sc_RowBook___init__ : FnScope N_RowBook___init__ ["self"] (defScope s_RowBook___init__) := ⟨rfl, rfl, rfl, by decide +kernel, rfl, by decide +kernel, by decide +kernel⟩
def spBook0 (K : PySem.W.Frag) (C : Addr) : Sp := fun vs H Q _ => ∃ (p dx : Addr), vs = [.ref p] ∧ H p = some (.ins C dx []) ∧ ∀ H' lf lr dn, H lf = none → H lr = none → H dn = none → BookAt K C H' p dx lf lr dn ⟨[], []⟩ → (∀ b o, H b = some o → b ≠ p → H' b = some o) → Q .non H'
theorem ok_book (T : ClsB K mg C) (D : DefM K C "__init__" "RowBook.__init__" s_RowBook___init__ ["self"]) : MthAt P w K mg base C 1 "__init__" ["self"] (spBook0 K C) := by
  refine D.ok sc_RowBook___init__ (fun vs H Q E ⟨p, dx, h, _⟩ => by rw [h] <;> rfl) fun f0 cdv A outer s H vs Q E hr h => ?_
  obtain ⟨p, dx, rfl, hp, q⟩ := h
  refine ⟨_, (pss_cons (ps_fld (pv 0) (pe_lst pa_nil) rfl)
      (pss_cons (ps_fld (pv 0) (pe_lst pa_nil) rfl)
      (pss_one (ps_fld (pv 0) pe_dnewT rfl)))), ?_⟩
  try dsimp only [cxOf]
  refine ⟨(by show 0 ≤ sizeLine; decide), fun lf hlf => ?_⟩
  have npf : p ≠ lf := ne_of_none hp hlf
  refine ⟨_, rfl, p, C, dx, [], rfl, (by rw [upd_ne npf]; exact hp), T.cl, T.nF, (by show 0 < 1000; decide), ?_⟩
  refine ⟨(by show 0 ≤ sizeLine; decide), fun lr hlr => ?_⟩
  have hlr1 : (upd H lf (.lst [])) lr = none := by
    by_cases h : lr = p
    · subst h; rw [upd_same] at hlr; cases hlr
    · rw [upd_ne h] at hlr; exact hlr
  have nfr : lf ≠ lr := ne_of_none (o := .lst []) upd_same hlr1
  have hlr0 : H lr = none := by rw [upd_ne nfr.symm] at hlr1; exact hlr1
  have npr : p ≠ lr := ne_of_none hp hlr0
  refine ⟨_, rfl, p, C, dx, _, rfl, (by rw [upd_ne npr, upd_same]), T.cl, T.nR, (by show (putF _ _ []).length < 1000; exact Nat.lt_of_le_of_lt (length_putF _ _ _) (by decide)), ?_⟩
  intro dn hdn
  have hdn1 : H dn = none ∧ dn ≠ lf ∧ dn ≠ lr ∧ p ≠ dn := by
    have n1 : p ≠ dn := fun z => by subst z; rw [upd_same] at hdn; cases hdn
    rw [upd_ne n1.symm] at hdn
    have n2 : lr ≠ dn := fun z => by subst z; rw [upd_same] at hdn; cases hdn
    rw [upd_ne n2.symm, upd_ne n1.symm] at hdn
    have n3 : lf ≠ dn := fun z => by subst z; rw [upd_same] at hdn; cases hdn
    rw [upd_ne n3.symm] at hdn
    exact ⟨hdn, n3.symm, n2.symm, n1⟩
  obtain ⟨hdn0, ndf, ndr, npd⟩ := hdn1
  have ef1 : putF ("facts" : Str) (.ref lf) [] = [(("facts" : Str), V.ref lf)] := rfl
  have ef2 : putF ("rows" : Str) (.ref lr) (putF ("facts" : Str) (.ref lf) []) = [(("facts" : Str), V.ref lf), (("rows" : Str), V.ref lr)] := by
    rw [ef1, put_new fun q hq => by rw [List.mem_singleton.mp hq]; exact ks1] <;> rfl
  have ef3 : putF ("_numbers" : Str) (.ref dn) (putF ("rows" : Str) (.ref lr) (putF ("facts" : Str) (.ref lf) [])) = bookF lf lr dn := by
    rw [ef2, put_new fun q hq => by
      rcases List.mem_cons.mp hq with rfl | hq
      · exact ks2
      · rw [List.mem_singleton.mp hq]
        exact ks3] <;> rfl
  refine ⟨_, rfl, p, C, dx, _, rfl, (by rw [upd_ne npd, upd_same]), T.cl, T.nN, (by rw [ef2]; show 2 < 1000; decide), ?_⟩
  rw [ef3]
  refine q _ lf lr dn hlf hlr0 hdn0 ⟨upd_same, nfr, ⟨[], ?_, .nil⟩, ⟨[], ?_, .nil⟩, ?_⟩ fun b o hb hbp => ?_
  · rw [upd_ne npf.symm, upd_ne ndf.symm, upd_ne npf.symm, upd_ne nfr, upd_ne npf.symm, upd_same]
  · rw [upd_ne npr.symm, upd_ne ndr.symm, upd_ne npr.symm, upd_same]
  · rw [upd_ne npd.symm, upd_same] <;> rfl
  · rw [upd_ne hbp, upd_ne (ne_of_none hb hdn0), upd_ne hbp, upd_ne (ne_of_none hb hlr0), upd_ne hbp, upd_ne (ne_of_none hb hlf)]
    exact hb
end
end K27

/-! K27: lassoproof/formulas/rows.py: Rows, number_rows. -/
namespace K27
open PySem PySem.Spec PyProof.Rows L2 Evl
local macro_rules | `(tactic| walk_at "ev") => `(tactic| first
  | exact ev_c
  | exact ev_var rfl
  | (refine' et_test ?h; (case h => walk_at "ev"))
  | (refine' et_B ?h; (case h => walk_at "ev"))
  | (refine' et_not ?h; (case h => walk_at "ev"))
  | (refine' et_and ?a (fun _ => ?b); (case a => walk_at "ev"); (case b => walk_at "ev"))
  | (refine' et_or ?a (fun _ => ?b); (case a => walk_at "ev"); (case b => walk_at "ev"))
  | (refine' ev_op ?a ?b (rv_eq ?c); (case a => walk_at "ev"); (case b => walk_at "ev"); (case c => rfl))
  | (refine' ev_op ?a ?b rv_I0; (case a => walk_at "ev"); (case b => walk_at "ev"))
  | (refine' ev_inU ?a ?b ?c ?d; (case a => walk_at "ev"); (case b => (refine' eu_tup ?x ?y; (case x => walk_at "ev"); (case y => decide))); (case c => rfl); (case d => rfl))
  | (refine' ev_str (e_ixT ?a ?b ?c); (case a => walk_at "ed"); (case b => walk_at "ev"); (case c => first | exact at0 | exact at1 | exact at2))
  | (refine' ev_int (e_ixT ?a ?b ?c); (case a => walk_at "ed"); (case b => walk_at "ev"); (case c => first | exact at0 | exact at1 | exact at2))
  | exact Evl.ea_nil
  | (refine' Evl.ea_cons ?a ?b; (case a => walk_at "ev"); (case b => walk_at "ev")))
local macro_rules | `(tactic| walk_at "ed") => `(tactic| first
  | exact e_var rfl (by assumption)
  | exact e_var rfl (by constructor)
  | exact K27.ea_nil
  | (refine' K27.ea_cons ?a ?b; (case a => walk_at "ed"); (case b => walk_at "ed"))
  | (refine' e_tup ?a ?b; (case a => walk_at "ed"); (case b => (simp only [List.length_cons, List.length_nil, List.length_append]; omega)))
  | (refine' e_ixT ?a ?b ?c; (case a => walk_at "ed"); (case b => walk_at "ev"); (case c => first | exact at0 | exact at1 | exact at2))
  | (refine' e_ev ?a ?b; (case a => walk_at "ev"); (case b => first | exact .str _ | exact .int _ | exact .bl _ | assumption)))
/-- a comprehension over enumerate(list) -/
theorem lc_enum {K : PySem.W.Frag} {a : Addr} {xs : List V} {g : TG} {tt : TT} {te : TE} {vs : List Nat} {σ : L2.St} {H1 : Hp} {D : Addr} {Qd : Hp → Prop} (Pv : Nat → Hp → Prop) (h0 : Pv 0 (upd H1 D (.lst []))) (hl : ∀ i H, Pv i H → SqL K H a xs)
    (hs : ∀ i x H T, xs[i]? = some x → Pv i H → H T = none → g (.ref T) (wipe σ vs) (upd H T (.tup [.int (i : Nat), x])) fun σ2 H2 => wipe σ2 vs = wipe σ vs ∧ tt σ2 H2 fun b H3 =>
      if b = true then te σ2 H3 fun y H4 => ∃ acc, H4 D = some (.lst acc) ∧ acc.length < sizeLine ∧ Pv (i + 1) (upd H4 D (.lst (acc ++ [y]))) else Pv (i + 1) H3) (hd : ∀ H, Pv xs.length H → Qd H) :
    ∃ W : Nat → Nat → Hp → Prop, (∃ m, W 0 m (upd H1 D (.lst []))) ∧ ∀ i m H, W i m H →
      ((Ite K a).stop i H ∧ Qd H) ∨ ((Ite K a).go i H ∧ ∃ Nx : Hp → Prop, (∀ H', Nx H' → ∃ m', m' < m ∧ W (i + 1) m' H') ∧ ∀ x H', (Ite K a).yld i H x H' → g x (wipe σ vs) H' fun σ2 H2 => wipe σ2 vs = wipe σ vs ∧ tt σ2 H2 fun b H3 =>
        if b = true then te σ2 H3 fun y H4 => ∃ acc, H4 D = some (.lst acc) ∧ acc.length < sizeLine ∧ Nx (upd H4 D (.lst (acc ++ [y]))) else Nx H3) := by
  refine ⟨fun i m H => m = xs.length - i ∧ i ≤ xs.length ∧ Pv i H, ⟨xs.length, by simp, Nat.zero_le _, h0⟩, ?_⟩
  rintro i m H ⟨rfl, hi, p⟩
  have q := hl i H p
  by_cases hlt : i < xs.length
  · refine .inr ⟨⟨xs, xs[i], q, by simp [hlt]⟩, Pv (i + 1), fun H' p' => ⟨xs.length - (i + 1), by omega, rfl, hlt, p'⟩, fun x H' y => ?_⟩
    obtain ⟨T, x', rfl, hT, rfl, y⟩ := y
    exact hs i x' _ T (y xs q) p hT
  · have e : i = xs.length := by omega
    subst e
    exact .inl ⟨⟨xs, q, Nat.le_refl _⟩, hd H p⟩
section
variable {X : Cx} {e : Expr} {es : List Expr} {t : TA} {p pos : Pos} {k j : Nat} {x : Str} {ps : List Str} {sp : Sp} {C : Addr}
theorem pe_makeX {E' : XK} (hmk : PySem.W.makesIn X.K C = true) (hkC : PySem.W.keepIn X.K (.ref C) = true) (hmg : X.mg x = some (.ref C)) (F : MthAt X.prog X.w X.K X.mg X.base C j "__init__" ps sp) (hr : Room k X.A) (ha : PA X (e :: es) t) (hx : Passes CX0 X E' := by exact pass0) (hg : Gl X x := by rfl) (hj : j + 1 ≤ k := by omega)
    (hdb : (x == ("__debug__" : Str)) = false := by decide +kernel) (he : starEach (e :: es) X.env = (false, eval e X.env) :: starEach es X.env := by rfl) (hpl : (backTo pos (starEach es X.env)).any (·.1) = false := by rfl) : PE X (.Call (.Name x p) (e :: es) [] pos) (tMake C sp [] E' t) := by
  obtain ⟨f, fd, hm, hb, F⟩ := F
  exact pe_make ⟨hmk, hm.at_, hm.fn, hkC⟩ F (hr.mono hj) hg hmg hb .nil hx ha hdb he hpl
theorem pe_makeX0 {E' : XK} (hmk : PySem.W.makesIn X.K C = true) (hkC : PySem.W.keepIn X.K (.ref C) = true) (hmg : X.mg x = some (.ref C)) (F : MthAt X.prog X.w X.K X.mg X.base C j "__init__" ps sp) (hr : Room k X.A) (hx : Passes CX0 X E' := by exact pass0) (hg : Gl X x := by rfl) (hj : j + 1 ≤ k := by omega)
    (hdb : (x == ("__debug__" : Str)) = false := by decide +kernel) : PE X (.Call (.Name x p) [] [] pos) (tMake C sp [] E' tNil) := by
  obtain ⟨f, fd, hm, hb, F⟩ := F
  exact pe_make0 ⟨hmk, hm.at_, hm.fn, hkC⟩ F (hr.mono hj) hg hmg hb .nil hx hdb
end
/-! ### Rows -/
structure ClsR (K : PySem.W.Frag) (mg : Str → Option Value) (C : Addr) : Prop where
  cl : Cls K C
  nF : NoAttr K C "facts"
  nR : NoAttr K C "rows"
  nT : NoAttr K C "temporal"
  mgC : mg "Rows" = some (.ref C)
def rowsF (a b c : Addr) : List (Str × V) := [("facts", .ref a), ("rows", .ref b), ("temporal", .ref c)]
theorem lkr_facts (lf lr dn : Addr) : (rowsF lf lr dn).lookup ("facts" : Str) = some (.ref lf) := by
  unfold rowsF
  simp only [List.lookup]
  rw [show (("facts" : Str) == ("facts" : Str)) = true from beq_self_eq_true _]
theorem lkr_rows (lf lr dn : Addr) : (rowsF lf lr dn).lookup ("rows" : Str) = some (.ref lr) := by
  unfold rowsF
  simp only [List.lookup]
  rw [beq_false_comm ks1, show (("rows" : Str) == ("rows" : Str)) = true from beq_self_eq_true _]
/-- a Rows of these facts and rows stands at r -/
structure RowsAt (K : PySem.W.Frag) (C : Addr) (H : Hp) (r : Addr) (B : Bk) (a b : Addr) : Prop where
  ob : ∃ dx c, H r = some (.ins C dx (rowsF a b c))
  fs : ∃ vf, H a = some (.lst vf) ∧ DaAll K H vf (B.facts.map Fm.d)
  rs : ∃ vr, H b = some (.lst vr) ∧ DaAll K H vr (B.rows.map rowD)
theorem RowsAt.mono {K : PySem.W.Frag} {C : Addr} {H H' : Hp} {r : Addr} {B : Bk} {a b : Addr} (h : RowsAt K C H r B a b) (e : Ex H H') : RowsAt K C H' r B a b := by
  obtain ⟨dx, c, h1⟩ := h.ob
  obtain ⟨vf, h2, h3⟩ := h.fs
  obtain ⟨vr, h4, h5⟩ := h.rs
  exact ⟨⟨dx, c, e _ _ h1⟩, ⟨vf, e _ _ h2, h3.mono e⟩, ⟨vr, e _ _ h4, h5.mono e⟩⟩
section
variable {P : Program} {w : World} {K : PySem.W.Frag} {mg : Str → Option Value} {base : Heap} {C : Addr}
abbrev s_Rows___init__ : Stmt := inClass (topS 25) 0
abbrev N_Rows___init__ : List Str := ["self", "facts", "rows", "number", "row"]
theorem sc_Rows___init__ : FnScope N_Rows___init__ ["self", "facts", "rows"] (defScope s_Rows___init__) := ⟨rfl, rfl, rfl, by decide +kernel, rfl, by decide +kernel, by decide +kernel⟩
def plainWs : List Str := ["true", "false", "fact", "not", "and", "or", "implies", "same"].map Str.ofString
def spRows (K : PySem.W.Frag) (C : Addr) : Sp := fun vs H Q _ => ∃ (p dx lf lr : Addr) (vf vr : List V) (B : Bk), vs = [.ref p, .ref lf, .ref lr] ∧ H p = some (.ins C dx []) ∧ H lf = some (.lst vf) ∧ DaAll K H vf (B.facts.map Fm.d) ∧ H lr = some (.lst vr) ∧ DaAll K H vr (B.rows.map rowD) ∧ B.rows.length ≤ 50000 ∧
  ∀ H' a b, RowsAt K C H' p B a b → (∀ b o, H b = some o → b ≠ p → H' b = some o) → Q .non H'
theorem ok_rows (T : ClsR K mg C) (C_PLAIN : Cst K mg "PLAIN" (.tuple (plainWs.map PyData.str))) (Z_list : mg "list" = none) (Z_enumerate : mg "enumerate" = none) (D : DefM K C "__init__" "Rows.__init__" s_Rows___init__ ["self", "facts", "rows"]) : MthAt P w K mg base C 1 "__init__" ["self", "facts", "rows"] (spRows K C) := by
  obtain ⟨aP, h_PLAIN, dP⟩ := C_PLAIN
  refine D.ok sc_Rows___init__ (fun vs H Q E ⟨p, dx, lf, lr, vf, vr, B, h, _⟩ => by rw [h] <;> rfl) fun f0 cdv A outer s H vs Q E hr h => ?_
  obtain ⟨p, dx, lf, lr, vf, vr, B, rfl, hp, hf, hfd, hrl, hrd, hlen, q⟩ := h
  refine ⟨_, (pss_cons (ps_fld (pv 0) (pe_callTy call_listS (by rfl) Z_list bt_list (pa_cons (pv 1) pa_nil)) rfl)
      (pss_cons (ps_fld (pv 0) (pe_callTy call_listS (by rfl) Z_list bt_list (pa_cons (pv 2) pa_nil)) rfl)
      (pss_one (ps_fld (pv 0) (pe_lc (own := [("number", 3), ("row", 4)]) (g := gTup K 2 (gCons (gName 3) (gCons (gName 4) gNil))) (tt := (tTest (tOp (rIn K true) (tOp (rIxT K) (tVar 4) (tC _)) (tC _)))) (te := (tVar 3)) (by rfl) sc_Rows___init__.nd (pi_enum (by rfl) Z_enumerate (pa_cons (pv 2) pa_nil)) (blkOk_by (N := N_Rows___init__) (own := [("number", 3), ("row", 4)]) (sc := defScope s_Rows___init__) (by decide +kernel)) (fun _ _ _ _ _ => (pg_tup rfl (pgs_cons (pg_name (i := 3) sc_Rows___init__.nd rfl (by first | exact Or.inl rfl | exact Or.inr rfl)) (pgs_cons (pg_name (i := 4) sc_Rows___init__.nd rfl (by first | exact Or.inl rfl | exact Or.inr rfl)) pgs_nil)))) (fun _ _ _ _ _ => pts_one (pt_cmpR op_notIn_seq (pe_ix ix_tup (pv 4) pe_int (fun _ _ => rfl)) (pe_globR h_PLAIN) (by rfl))) (fun _ _ _ _ _ => (pv 3))) rfl)))), ?_⟩
  try dsimp only [cxOf]
  have npf0 : p ≠ lf := ne_of hp hf (by intro z; cases z)
  have npr0 : p ≠ lr := ne_of hp hrl (by intro z; cases z)
  -- self.facts = list(facts)
  refine ⟨_, rfl, lf, vf, rfl, .inl (SqL.of hf), fun a ha => ?_⟩
  have npa : p ≠ a := ne_of_none hp ha
  refine ⟨_, rfl, p, C, dx, [], rfl, (by rw [upd_ne npa]; exact hp), T.cl, T.nF, (by show 0 < 1000; decide), ?_⟩
  have ef1 : putF ("facts" : Str) (.ref a) [] = [(("facts" : Str), V.ref a)] := rfl
  rw [ef1]
  have k1 : ∀ b o, H b = some o → b ≠ p → (upd (upd H a (.lst vf)) p (.ins C dx [(("facts" : Str), V.ref a)])) b = some o := fun b o hb hbp => by
    rw [upd_ne hbp, upd_ne (ne_of_none hb ha)]
    exact hb
  have hp1 : (upd (upd H a (.lst vf)) p (.ins C dx [(("facts" : Str), V.ref a)])) p = some (.ins C dx [(("facts" : Str), V.ref a)]) := upd_same
  have ha1 : (upd (upd H a (.lst vf)) p (.ins C dx [(("facts" : Str), V.ref a)])) a = some (.lst vf) := by rw [upd_ne npa.symm, upd_same]
  have te1 : TEx H (upd (upd H a (.lst vf)) p (.ins C dx [(("facts" : Str), V.ref a)])) := fun b o hb ho => k1 b o hb (ne_of hb hp (by rcases ho with ⟨xs, rfl⟩ | ⟨ob, u, rfl⟩ <;> (intro z; cases z)))
  generalize upd (upd H a (.lst vf)) p (.ins C dx [(("facts" : Str), V.ref a)]) = H1 at k1 hp1 ha1 te1
  -- self.rows = list(rows)
  have hr1 : H1 lr = some (.lst vr) := k1 _ _ hrl npr0.symm
  refine ⟨_, rfl, lr, vr, rfl, .inl (SqL.of hr1), fun b hb => ?_⟩
  have npb : p ≠ b := ne_of_none hp1 hb
  have nab : a ≠ b := ne_of_none ha1 hb
  refine ⟨_, rfl, p, C, dx, _, rfl, (by rw [upd_ne npb]; exact hp1), T.cl, T.nR, (by show 1 < 1000; decide), ?_⟩
  have ef2 : putF ("rows" : Str) (.ref b) [(("facts" : Str), V.ref a)] = [(("facts" : Str), V.ref a), (("rows" : Str), V.ref b)] := by
    rw [put_new fun q hq => by rw [List.mem_singleton.mp hq]; exact ks1] <;> rfl
  rw [ef2]
  have k2 : ∀ c o, H1 c = some o → c ≠ p → (upd (upd H1 b (.lst vr)) p (.ins C dx [(("facts" : Str), V.ref a), (("rows" : Str), V.ref b)])) c = some o := fun c o hc hcp => by
    rw [upd_ne hcp, upd_ne (ne_of_none hc hb)]
    exact hc
  have hp2 : (upd (upd H1 b (.lst vr)) p (.ins C dx [(("facts" : Str), V.ref a), (("rows" : Str), V.ref b)])) p = some (.ins C dx [(("facts" : Str), V.ref a), (("rows" : Str), V.ref b)]) := upd_same
  have hb2 : (upd (upd H1 b (.lst vr)) p (.ins C dx [(("facts" : Str), V.ref a), (("rows" : Str), V.ref b)])) b = some (.lst vr) := by rw [upd_ne npb.symm, upd_same]
  have te2 : TEx H1 (upd (upd H1 b (.lst vr)) p (.ins C dx [(("facts" : Str), V.ref a), (("rows" : Str), V.ref b)])) := fun c o hc ho => k2 c o hc (ne_of hc hp1 (by rcases ho with ⟨xs, rfl⟩ | ⟨ob, u, rfl⟩ <;> (intro z; cases z)))
  have ha2 := k2 _ _ ha1 npa.symm
  generalize upd (upd H1 b (.lst vr)) p (.ins C dx [(("facts" : Str), V.ref a), (("rows" : Str), V.ref b)]) = H2 at k2 hp2 hb2 te2 ha2
  have hr2 : H2 lr = some (.lst vr) := k2 _ _ hr1 npr0.symm
  have hrd2 : DaAll K H2 vr (B.rows.map rowD) := hrd.pmono (te1.trans te2) (pls_map rowD_pl _)
  have hlv : vr.length = B.rows.length := by rw [hrd.length, List.length_map]
  -- self.temporal = [..]
  refine ⟨_, rfl, lr, vr, rfl, SqL.of hr2, fun c hc => ?_⟩
  refine lc_enum (xs := vr) (fun i H' => Ex H2 H' ∧ ∃ acc, H' c = some (.lst acc) ∧ acc.length ≤ i) ⟨Ex.new hc, [], upd_same, Nat.le_refl _⟩ (fun i H' h => SqL.of (h.1 _ _ hr2)) ?_ ?_
  · rintro i x H' Tt hx ⟨e3, acc, hacc, hal⟩ hTt
    have hil := (List.getElem?_eq_some_iff.mp hx).1
    obtain ⟨d, hd, rd⟩ := hrd2.get hx
    rw [List.getElem?_map] at hd
    cases hri : B.rows[i]? with
    | none =>
      rw [hri] at hd
      cases hd
    | some r =>
      rw [hri] at hd
      cases hd
      have e4 : Ex H' (upd H' Tt (.tup [.int (i : Nat), x])) := Ex.new hTt
      refine ⟨Tt, _, rfl, SqT.of upd_same, rfl, _, _, rfl, _, _, rfl, rfl, rfl, ?_⟩
      have rd4 := rd.mono (e3.trans e4)
      have hc4 := e4 _ _ hacc
      generalize upd H' Tt (.tup [.int (i : Nat), x]) = H4 at e4 rd4 hc4
      refine (et_test (ev_niC (ev_str (e_ixT (e_var rfl rd4) ev_c at0)) dP)) H4 (Ex.refl H4) _ fun H5 e5 => ?_
      refine ite2 (fun _ => ?_) fun _ => ?_
      · refine ⟨_, rfl, acc, e5 _ _ hc4, sz_lt (by omega), ?_⟩
        refine ⟨fun z o hz => ?_, acc ++ [.int (i : Nat)], upd_same, by simp; omega⟩
        rw [upd_ne (ne_of_none hz hc)]
        exact e5 _ _ (e4 _ _ (e3 _ _ hz))
      · exact ⟨(e3.trans e4).trans e5, acc, e5 _ _ hc4, by omega⟩
  · rintro H' ⟨e3, acc, hacc, hal⟩
    have npc : p ≠ c := ne_of_none hp2 hc
    refine ⟨_, rfl, p, C, dx, _, rfl, e3 _ _ hp2, T.cl, T.nT, (by show 2 < 1000; decide), ?_⟩
    have ef3 : putF ("temporal" : Str) (.ref c) [(("facts" : Str), V.ref a), (("rows" : Str), V.ref b)] = rowsF a b c := by
      rw [put_new fun q hq => by
        rcases List.mem_cons.mp hq with rfl | hq
        · exact ks4
        · rw [List.mem_singleton.mp hq]
          exact ks5] <;> rfl
    rw [ef3]
    have te3 : TEx H' (upd H' p (.ins C dx (rowsF a b c))) := fun y o hy ho => by
      rw [upd_ne (ne_of hy (e3 _ _ hp2) (by rcases ho with ⟨xs, rfl⟩ | ⟨ob, u, rfl⟩ <;> (intro z; cases z)))]
      exact hy
    have teA : TEx H (upd H' p (.ins C dx (rowsF a b c))) := (te1.trans te2).trans ((TEx.of e3).trans te3)
    refine q _ a b ⟨⟨dx, c, upd_same⟩, ⟨vf, by rw [upd_ne npa.symm]; exact e3 _ _ ha2, hfd.pmono teA (pls_map Fm.pl _)⟩, ⟨vr, by rw [upd_ne npb.symm]; exact e3 _ _ hb2, hrd.pmono teA (pls_map rowD_pl _)⟩⟩ fun y o hy hyp => ?_
    rw [upd_ne hyp]
    exact e3 _ _ (k2 _ _ (k1 _ _ hy hyp) hyp)
/-! ### number_rows -/
abbrev s_number_rows : Stmt := topS 27
abbrev N_number_rows : List Str := ["formula", "book"]
theorem sc_number_rows : FnScope N_number_rows ["formula"] (defScope s_number_rows) := ⟨rfl, rfl, rfl, by decide +kernel, rfl, by decide +kernel, by decide +kernel⟩
def Bk0 : Bk := ⟨[], []⟩
def spNum (K : PySem.W.Frag) (CR : Addr) (N : List Str) : Sp := fun vs H Q _ => ∃ (v : V) (f : Fm), vs = [v] ∧ Da K H v f.d ∧ f.fine N ∧ f.dp ≤ 12 ∧ ∀ H' r a b, Ex H H' → RowsAt K CR H' r (Bk.fm f Bk0).1 a b → Q (.ref r) H'
theorem ok_number_rows {CB CR : Addr} {N : List Str} (TB : ClsB K mg CB) (TR : ClsR K mg CR) (M_RowBook : PySem.W.makesIn K CB = true) (k_RowBook : PySem.W.keepIn K (.ref CB) = true) (M_Rows : PySem.W.makesIn K CR = true) (k_Rows : PySem.W.keepIn K (.ref CR) = true)
    (G_RowBook : MthAt P w K mg base CB 1 "__init__" ["self"] (spBook0 K CB)) (G_Rows : MthAt P w K mg base CR 1 "__init__" ["self", "facts", "rows"] (spRows K CR)) (G_put_formula : MthAt P w K mg base CB 14 "put_formula" ["self", "formula"] (spFm K CB N 12))
    (D : Def K mg "number_rows" s_number_rows ["formula"]) : FnAt P w K mg base 15 "number_rows" ["formula"] (spNum K CR N) := by
  obtain ⟨f0, fd, F, hm, hb⟩ := D
  refine ⟨f0, fd, F.kp, hm, hb, F.ok sc_number_rows (fun vs H Q E ⟨v, f, h, _⟩ => by rw [h] <;> rfl) fun cdv A outer s H vs Q E hr h => ?_⟩
  obtain ⟨v, f, rfl, hv, hf, hd, q⟩ := h
  have m_RowBook := TB.mgC
  have m_Rows := TR.mgC
  have C_RowBook := TB.cl
  refine ⟨_, (pss_cons (ps_set (i := 1) sc_number_rows.nd rfl (by first | exact Or.inl rfl | exact Or.inr rfl) (pe_makeX0 M_RowBook k_RowBook m_RowBook G_RowBook hr))
      (pss_cons (ps_expr (pe_methX C_RowBook G_put_formula hr (pv 1) (pa_cons (pv 0) pa_nil)))
      (pss_one (ps_ret (pe_makeX M_Rows k_Rows m_Rows G_Rows hr (pa_cons (pe_fld (pv 1) rfl) (pa_cons (pe_fld (pv 1) rfl) pa_nil))))))), ?_⟩
  try dsimp only [cxOf]
  have hsz : f.sz ≤ 4096 := by
    have h1 := sz_dp f
    have h2 : 2 ^ f.dp ≤ 2 ^ 12 := Nat.pow_le_pow_right (by decide) hd
    have h3 : (2 : Nat) ^ 12 = 4096 := by decide
    omega
  -- book = RowBook()
  intro x dx hx hdx hne
  have e1 : Ex H (upd (upd H dx (.own x)) x (.ins CB dx [])) := fun b o hb => by
    rw [upd_ne (ne_of_none hb hx), upd_ne (ne_of_none hb hdx)]
    exact hb
  refine ⟨x, dx, rfl, upd_same, fun H2 lf lr dn hlf hlr hdn hB k2 => ⟨rfl, ?_⟩⟩
  have e2 : Ex H H2 := fun b o hb => k2 b o (e1 b o hb) (ne_of_none hb hx)
  have hlf0 : H lf = none := fresh_back e1 hlf
  have hlr0 : H lr = none := fresh_back e1 hlr
  have hdn0 : H dn = none := fresh_back e1 hdn
  show tSeq _ _ _ [some v, some (.ref x)] H2
  -- book.put_formula(formula)
  refine ⟨_, rfl, x, dx, _, rfl, hB.ob, lk_none _ _ _ (by decide +kernel) (by decide +kernel) (by decide +kernel), ?_⟩
  refine ⟨_, rfl, x, dx, lf, lr, dn, ⟨[], []⟩, v, f, rfl, hv.mono e2, hf, hd, (fun c hc => by cases hc), hB, by show 0 + f.sz ≤ 50000; omega, by show 0 + f.sz ≤ 50000; omega, fun H3 hB3 fr3 => ?_⟩
  have e3 : Ex H H3 := fun b o hb => fr3 b o (e2 b o hb) (ne_of_none hb hlf0) (ne_of_none hb hlr0) (ne_of_none hb hdn0)
  obtain ⟨vf, hvf, hfd⟩ := hB3.fs
  obtain ⟨vr, hvr, hrd⟩ := hB3.rs
  -- return Rows(book.facts, book.rows)
  refine ⟨_, rfl, x, CB, dx, _, _, rfl, hB3.ob, TB.cl, TB.nF, lk_facts _ _ _, ?_⟩
  refine ⟨_, rfl, x, CB, dx, _, _, rfl, hB3.ob, TB.cl, TB.nR, lk_rows _ _ _, ?_⟩
  intro y dy hy hdy hney
  have e4 : Ex H3 (upd (upd H3 dy (.own y)) y (.ins CR dy [])) := fun b o hb => by
    rw [upd_ne (ne_of_none hb hy), upd_ne (ne_of_none hb hdy)]
    exact hb
  have hlen := (fm_len f Bk0).1
  have hl0 : Bk0.rows.length = 0 := rfl
  refine ⟨y, dy, lf, lr, vf, vr, (Bk.fm f Bk0).1, rfl, upd_same, e4 _ _ hvf, hfd.mono e4, e4 _ _ hvr, hrd.mono e4, by omega, fun H5 a b hR k5 => ⟨rfl, ?_⟩⟩
  exact q H5 y a b (fun c o hc => k5 c o (e4 c o (e3 c o hc)) (ne_of_none (e3 c o hc) hy)) hR
end
end K27

/-! K27: dict(zip(names, state)): a list of texts, a tuple of ints. -/
namespace K27
open PySem PySem.Spec PyProof.Rows L2 Evl
section
variable {prog : Program} {w : World} {A : Around} {E : Value → Shared → Prop} {s : Shared} {z TI TO T i1 i2 : Addr} {f : Bool} {oT : Obj} {fp1 fp2 : List Addr} {n1 n2 i : Nat} {P1 P2 : Nat → Value → Prop} {St1 St2 : Nat → Heap → Prop}
/-- zip's next, the pair that it gave out before still there: an item -/
theorem zh_item {Q : Value → Shared → Prop} (S : ZipSep2 z TI TO i1 i2 fp1 fp2) (D1 : Draws prog w A i1 fp1 n1 P1 St1) (D2 : Draws prog w A i2 fp2 n2 P2 St2) (hz : IsZipHeld s.heap z TI TO T f) (hT : s.heap.get? T = some oT) (hTI : IsTupOf2 s.heap TI (.ref i1) (.ref i2))
    (st1 : St1 i s.heap) (st2 : St2 i s.heap) (h1 : i < n1) (h2 : i < n2)
    (hQ : ∀ x y h' tk, P1 i x → P2 i y → IsZipHeld h' z TI TO T true → St1 (i + 1) h' → St2 (i + 1) h' → IsTupOf2 h' s.heap.objs.size x y → (∀ c o, c ≠ z → c ≠ i1 → c ≠ i2 → s.heap.get? c = some o → h'.get? c = some o) → Q (.ref s.heap.objs.size) { s with heap := h', toks := tk }) :
    wpAny (model prog w) A (Builtin.«zip.__next__» ⟨[.ref z], []⟩) (fun fin s' => ∃ v, fin = .done (.ret v) ∧ Q v s') E s := by
  obtain ⟨hp, g, d, tk0, os⟩ := s
  show wpAny _ _ (field (.ref z) 2 >>= _) _ _ _; refine wpAny_bind (wpAny_field hz rfl (x := .bool false) rfl ?_)
  show wpAny _ _ (field (.ref z) 3 >>= _) _ _ _; refine wpAny_bind (wpAny_field hz rfl (x := .ref TI) rfl (wpAny_bind (wpAny_seqItems hTI rfl ?_)))
  show wpAny _ _ (Builtin.SmallTypes.ownedTupleIsFree (.ref z) >>= _) _ _ _; refine wpAny_bind (wpAny_tupleHeld_zip hz hT fun g0 z0 s0 => ?_)
  replace s0 : Heap.SameBut z hp g0 := s0
  simp only [Bool.false_eq_true, if_false]; refine wpAny_bind ?_; rw [← Array.forIn_toList]; simp only [List.forIn_cons, List.forIn_nil]
  refine wpAny_bind (wpAny_bind (wpAny_holding ?_)); show wpAny _ _ (Builtin.SmallTypes.nextOf (.ref i1) >>= _) _ _ ⟨g0, g, d, tk0, os⟩
  refine wpAny_bind (D1.item i _ _ _ h1 (D1.over st1 s0 S.zf1) fun x p1 tk1 hx sn1 q1 => wpAny_pure (wpAny_pure ?_))
  replace q1 : Heap.SameBut i1 g0 p1 := q1
  refine wpAny_bind (wpAny_bind (wpAny_holding ?_)); show wpAny _ _ (Builtin.SmallTypes.nextOf (.ref i2) >>= _) _ _ ⟨p1, g, d, tk1, os⟩
  refine wpAny_bind (D2.item i _ _ _ h2 (D2.over (D2.over st2 s0 S.zf2) q1 S.sep1_2) fun y p2 tk2 hy sn2 q2 => wpAny_pure (wpAny_pure (wpAny_pure ?_)))
  replace q2 : Heap.SameBut i2 p1 p2 := q2
  show wpAny _ _ (newTuple [x, y] >>= _) _ _ _; refine wpAny_bind (wpAny_newTuple (wpAny_pure ⟨_, rfl, ?_⟩))
  have hsz : p2.objs.size = hp.objs.size := by rw [q2.1, q1.1, s0.1]
  have k0 : ∀ c o, c ≠ z → c ≠ i1 → c ≠ i2 → hp.get? c = some o → p2.get? c = some o := fun c o c1 c2 c3 e => q2.extBut _ _ c3 (q1.extBut _ _ c2 (s0.extBut _ _ c1 e))
  have hz2 : IsZipHeld p2 z TI TO T true := q2.extBut _ _ S.zi2 (q1.extBut _ _ S.zi1 z0)
  have hn : IsTupOf2 (p2.push { cls := .type "tuple", data := .seq #[x, y] }) p2.objs.size x y := Heap.get?_push_size _ rfl
  show Q (.ref p2.objs.size) _
  rw [hsz] at hn ⊢
  exact hQ x y _ tk2 hx hy (Heap.get?_push_of_some _ hz2) (D1.frame _ _ _ (D1.over sn1 q2 S.sep2_1) fun b _ o e => Heap.get?_push_of_some _ e) (D2.frame _ _ _ sn2 fun b _ o e => Heap.get?_push_of_some _ e) hn fun c o c1 c2 c3 e => Heap.get?_push_of_some _ (k0 c o c1 c2 c3 e)
/-- .. none left -/
theorem zh_end {Q : Fin → Shared → Prop} (S : ZipSep2 z TI TO i1 i2 fp1 fp2) (D1 : Draws prog w A i1 fp1 n1 P1 St1) (D2 : Draws prog w A i2 fp2 n2 P2 St2) (hz : IsZipHeld s.heap z TI TO T f) (hT : s.heap.get? T = some oT) (hTI : IsTupOf2 s.heap TI (.ref i1) (.ref i2))
    (st1 : St1 i s.heap) (st2 : St2 i s.heap) (h1 : i ≤ n1) (h2 : i ≤ n2) (hend : i = n1 ∨ i = n2)
    (hE : ∀ h' tk e, (∀ c o, c ≠ z → c ≠ i1 → c ≠ i2 → s.heap.get? c = some o → h'.get? c = some o) → (∃ o, h'.get? e = some o ∧ o.cls = .type "StopIteration") → E (.ref e) { s with heap := h', toks := tk }) :
    wpAny (model prog w) A (Builtin.«zip.__next__» ⟨[.ref z], []⟩) Q E s := by
  obtain ⟨hp, g, d, tk0, os⟩ := s
  show wpAny _ _ (field (.ref z) 2 >>= _) _ _ _; refine wpAny_bind (wpAny_field hz rfl (x := .bool false) rfl ?_)
  show wpAny _ _ (field (.ref z) 3 >>= _) _ _ _; refine wpAny_bind (wpAny_field hz rfl (x := .ref TI) rfl (wpAny_bind (wpAny_seqItems hTI rfl ?_)))
  show wpAny _ _ (Builtin.SmallTypes.ownedTupleIsFree (.ref z) >>= _) _ _ _; refine wpAny_bind (wpAny_tupleHeld_zip hz hT fun g0 z0 s0 => ?_)
  replace s0 : Heap.SameBut z hp g0 := s0
  simp only [Bool.false_eq_true, if_false]; refine wpAny_bind ?_; rw [← Array.forIn_toList]; simp only [List.forIn_cons, List.forIn_nil]
  refine wpAny_bind (wpAny_bind (wpAny_holding ?_)); show wpAny _ _ (Builtin.SmallTypes.nextOf (.ref i1) >>= _) _ _ ⟨g0, g, d, tk0, os⟩
  by_cases hl : i < n1
  · have e2 : i = n2 := by omega
    subst e2
    refine wpAny_bind (D1.item i _ _ _ hl (D1.over st1 s0 S.zf1) fun x p1 tk1 hx sn1 q1 => wpAny_pure (wpAny_pure ?_))
    replace q1 : Heap.SameBut i1 g0 p1 := q1
    refine wpAny_bind (wpAny_bind (wpAny_holding ?_)); show wpAny _ _ (Builtin.SmallTypes.nextOf (.ref i2) >>= _) _ _ ⟨p1, g, d, tk1, os⟩
    refine wpAny_bind (D2.done ⟨p1, g, d, tk1, os⟩ _ _ (D2.over (D2.over st2 s0 S.zf2) q1 S.sep1_2) fun q e hq he => ?_)
    exact hE q tk1 e (fun c o c1 c2 c3 x => hq _ _ c3 (q1.extBut _ _ c2 (s0.extBut _ _ c1 x))) he
  · have e1 : i = n1 := by omega
    subst e1
    refine wpAny_bind (D1.done ⟨g0, g, d, tk0, os⟩ _ _ (D1.over st1 s0 S.zf1) fun q e hq he => ?_)
    exact hE q tk0 e (fun c o c1 c2 c3 x => hq _ _ c2 (s0.extBut _ _ c1 x)) he
theorem zh_next {Q : Option Value → Shared → Prop} (S : ZipSep2 z TI TO i1 i2 fp1 fp2) (D1 : Draws prog w A.in1 i1 fp1 n1 P1 St1) (D2 : Draws prog w A.in1 i2 fp2 n2 P2 St2) (hz : IsZipHeld s.heap z TI TO T f) (hT : s.heap.get? T = some oT) (hTI : IsTupOf2 s.heap TI (.ref i1) (.ref i2))
    (st1 : St1 i s.heap) (st2 : St2 i s.heap) (h1 : i < n1) (h2 : i < n2)
    (hQ : ∀ x y h' tk, P1 i x → P2 i y → IsZipHeld h' z TI TO T true → St1 (i + 1) h' → St2 (i + 1) h' → IsTupOf2 h' s.heap.objs.size x y → (∀ c o, c ≠ z → c ≠ i1 → c ≠ i2 → s.heap.get? c = some o → h'.get? c = some o) → Q (some (.ref s.heap.objs.size)) { s with heap := h', toks := tk }) :
    wpAny (model prog w) A (pyNext (.ref z)) Q E s := by
  have hy : s.TypeIs (.ref z) "zip" := ⟨_, hz, rfl⟩
  unfold pyNext; refine wpAny_bind (wpAny_attempt (wpAny_callSpecial?_slot (name := Str.ofString "__next__") hy F.slot_zip_next ?_))
  exact wpAny_call_entry F.slot_zip_next hy F.entry_zip_next (zh_item S D1 D2 hz hT hTI st1 st2 h1 h2 fun x y h' tk a1 a2 a3 a4 a5 a6 a7 => wpAny_pure (hQ x y h' tk a1 a2 a3 a4 a5 a6 a7)) (F.args_zip_next_1 _)
theorem zh_stop {Q : Option Value → Shared → Prop} (S : ZipSep2 z TI TO i1 i2 fp1 fp2) (D1 : Draws prog w A.in1 i1 fp1 n1 P1 St1) (D2 : Draws prog w A.in1 i2 fp2 n2 P2 St2) (hz : IsZipHeld s.heap z TI TO T f) (hT : s.heap.get? T = some oT) (hTI : IsTupOf2 s.heap TI (.ref i1) (.ref i2))
    (st1 : St1 i s.heap) (st2 : St2 i s.heap) (h1 : i ≤ n1) (h2 : i ≤ n2) (hend : i = n1 ∨ i = n2)
    (hQ : ∀ h' tk, (∀ c o, c ≠ z → c ≠ i1 → c ≠ i2 → s.heap.get? c = some o → h'.get? c = some o) → Q none { s with heap := h', toks := tk }) :
    wpAny (model prog w) A (pyNext (.ref z)) Q E s := by
  have hy : s.TypeIs (.ref z) "zip" := ⟨_, hz, rfl⟩
  unfold pyNext; refine wpAny_bind (wpAny_attempt (wpAny_callSpecial?_slot (name := Str.ofString "__next__") hy F.slot_zip_next ?_))
  refine wpAny_call_entry F.slot_zip_next hy F.entry_zip_next (zh_end S D1 D2 hz hT hTI st1 st2 h1 h2 hend fun h' tk e hk he => ?_) (F.args_zip_next_1 _)
  obtain ⟨o, ho, hc⟩ := he
  exact wpAny_bind (wpAny_isInstance (T := "StopIteration") (b := true) ⟨o, ho, hc⟩ isSubtype_stop (wpAny_pure (hQ _ _ hk)))
end
section
variable {prog : Program} {w : World}
/-- what stands while the dict is filled -/
def ZSt (z TI TO i1 i2 l1 l2 d : Addr) (xs ys : Array Value) (i : Nat) (h : Heap) : Prop := IsTupOf2 h TI (.ref i1) (.ref i2) ∧ (h.IsListIter i1 l1 i ∧ h.IsList l1 xs) ∧ (h.IsTupleIter i2 l2 i ∧ h.IsTuple l2 ys) ∧
  ((IsZip h z TI TO .none ∧ ∃ a b, IsTupOf2 h TO a b) ∨ ∃ T f oT, IsZipHeld h z TI TO T f ∧ h.get? T = some oT ∧ T ≠ z ∧ T ≠ i1 ∧ T ≠ i2 ∧ T ≠ d)
theorem zsep {z TI TO i1 i2 l1 l2 : Addr} (N : [z, TI, TO, i1, i2].Nodup ∧ ∀ l ∈ [l1, l2], l ∉ [z, TI, TO, i1, i2]) : ZipSep2 z TI TO i1 i2 [i1, l1] [i2, l2] := by
  have M1 := N.2 l1 (by simp)
  have M2 := N.2 l2 (by simp)
  have N1 := N.1
  simp only [List.nodup_cons, List.mem_cons, List.not_mem_nil, or_false, not_or, not_false_eq_true, List.nodup_nil, and_true] at N1 M1 M2
  obtain ⟨⟨a1, a2, a3, a4⟩, ⟨a5, a6, a7⟩, ⟨a8, a9⟩, a10⟩ := N1
  obtain ⟨b1, b2, b3, b4, b5⟩ := M1
  obtain ⟨c1, c2, c3, c4, c5⟩ := M2
  exact ⟨Ne.symm a1, Ne.symm a2, a5, a6, by simp, by simp; exact ⟨a3, Ne.symm b1⟩, by simp; exact ⟨a8, Ne.symm b3⟩, a7, by simp, by simp; exact ⟨a4, Ne.symm c1⟩, by simp; exact ⟨a9, Ne.symm c3⟩, by simp; exact ⟨a10, Ne.symm c4⟩, by simp; exact ⟨Ne.symm a10, Ne.symm b5⟩⟩
theorem zArg (z TI TO i1 i2 l1 l2 : Addr) (N : [z, TI, TO, i1, i2].Nodup ∧ ∀ l ∈ [l1, l2], l ∉ [z, TI, TO, i1, i2]) (xs ys : Array Value) :
    PairArg prog w "zip" z [z, TI, TO, i1, i2, l1, l2] [z, TO, i1, i2] (min xs.size ys.size) (fun i k v => xs[i]? = some k ∧ ys[i]? = some v)
      (fun h => IsZip h z TI TO .none ∧ IsTupOf2 h TI (.ref i1) (.ref i2) ∧ (∃ a b, IsTupOf2 h TO a b) ∧ (h.IsListIter i1 l1 0 ∧ h.IsList l1 xs) ∧ h.IsTupleIter i2 l2 0 ∧ h.IsTuple l2 ys) := by
  have S := zsep N
  have M1 := N.2 l1 (by simp)
  have M2 := N.2 l2 (by simp)
  have N1 := N.1
  simp only [List.nodup_cons, List.mem_cons, List.not_mem_nil, or_false, not_or, not_false_eq_true, List.nodup_nil, and_true] at M1 M2 N1
  have ne1 : l1 ≠ i1 := M1.2.2.2.1
  have ne2 : l2 ≠ i2 := M2.2.2.2.2
  refine ⟨fun s ok => ⟨_, ok.1, rfl⟩, by decide, ?_, ?_, ?_, ?_, ?_⟩
  · rintro h h' ⟨hz, hTI, ⟨a, b, hTO⟩, ⟨h1, g1⟩, h2, g2⟩ hk
    exact ⟨hk _ _ hz, hk _ _ hTI, ⟨a, b, hk _ _ hTO⟩, ⟨h1.at fun o e => hk _ o e, g1.at fun o e => hk _ o e⟩, h2.at fun o e => hk _ o e, g2.at fun o e => hk _ o e⟩
  · rintro h ⟨hz, hTI, ⟨a, c, hTO⟩, ⟨⟨o1, h1, _⟩, ⟨o3, g1, _⟩⟩, ⟨o2, h2, _⟩, ⟨o4, g2, _⟩⟩ b hb
    simp only [List.mem_cons, List.not_mem_nil, or_false] at hb
    rcases hb with rfl | rfl | rfl | rfl | rfl | rfl | rfl <;> exact ⟨_, by assumption⟩
  · intro b hb
    simp at hb ⊢
    rcases hb with rfl | rfl | rfl | rfl <;> simp
  · exact fun A s Q E hA ok h => getAttrOr_miss_zip ok.1 rfl rfl rfl zip_no_keys (by decide +kernel) hA h
  · rintro A s d Q E hA ⟨hz, hTI, ⟨a, b, hTO⟩, k1, k2⟩ hd hdf h
    simp only [List.mem_cons, List.not_mem_nil, or_false, not_or] at hdf
    obtain ⟨dz, dTI, dTO, di1, di2, dl1, dl2⟩ := hdf
    refine wpAny_pyIter_zip hz (h z [z, TO, i1, i2] (ZSt z TI TO i1 i2 l1 l2 d xs ys) s.heap s.toks ⟨?_, ?_, ?_, ?_⟩ ⟨hTI, k1, k2, .inl ⟨hz, a, b, hTO⟩⟩ (fun _ _ e => e) fun b hb => .inl hb)
    · intro hm
      simp only [List.mem_cons, List.not_mem_nil, or_false] at hm
      rcases hm with e | e | e | e <;> contradiction
    · rintro i h1 h2 ⟨hTI, ⟨a1, b1⟩, ⟨a2, b2⟩, hz⟩ hk
      refine ⟨hk _ _ (Ne.symm dTI) hTI, ⟨a1.at fun o e => hk _ o (Ne.symm di1) e, b1.at fun o e => hk _ o (Ne.symm dl1) e⟩, ⟨a2.at fun o e => hk _ o (Ne.symm di2) e, b2.at fun o e => hk _ o (Ne.symm dl2) e⟩, ?_⟩
      rcases hz with ⟨hz, a, b, hTO⟩ | ⟨T, f, oT, hz, hT, r1, r2, r3, r4⟩
      · exact .inl ⟨hk _ _ (Ne.symm dz) hz, a, b, hk _ _ (Ne.symm dTO) hTO⟩
      · exact .inr ⟨T, f, oT, hk _ _ (Ne.symm dz) hz, hk _ _ r4 hT, r1, r2, r3, r4⟩
    · rintro i s₁ Q₁ E₁ hi ⟨hTI, st1, st2, hz⟩ hds hQ
      have D1 := Draws.list (prog := prog) (w := w) (A := A.in1) hA i1 l1 ne1 xs
      have D2 := Draws.tuple (prog := prog) (w := w) (A := A.in1) hA i2 l2 ne2 ys
      have lt : ∀ {c o}, s₁.heap.get? c = some o → s₁.heap.objs.size ≠ c := fun e => Nat.ne_of_gt (Heap.lt_size e)
      have m1 : s₁.heap.objs.size ≠ i1 := let ⟨⟨_, e, _⟩, _⟩ := st1; lt e
      have m2 : s₁.heap.objs.size ≠ i2 := let ⟨⟨_, e, _⟩, _⟩ := st2; lt e
      rcases hz with ⟨hz, a, b, hTO⟩ | ⟨T, f, oT, hz, hT, r1, r2, r3, r4⟩
      · refine wpAny_pyNext_zipD2_item S D1 D2 hz hTI hTO st1 st2 (by omega) (by omega) fun x y h' tk ex ey a1 a2 a3 a4 a5 a6 hk => ?_
        refine hQ s₁.heap.objs.size _ _ h' tk ⟨ex, ey⟩ (.inl ⟨_, a5, rfl, _, rfl⟩) ⟨hk _ _ S.TIz S.TITO S.TIi1 S.TIi2 hTI, a3, a4, .inr ⟨s₁.heap.objs.size, false, _, a1, a5, lt hz, m1, m2, Nat.ne_of_gt hds⟩⟩ fun c o hc e => ?_
        simp only [List.mem_cons, List.not_mem_nil, or_false, not_or] at hc
        exact hk c o hc.1 hc.2.1 hc.2.2.1 hc.2.2.2 e
      · refine zh_next S D1 D2 hz hT hTI st1 st2 (by omega) (by omega) fun x y h' tk ex ey a1 a3 a4 a5 hk => ?_
        refine hQ s₁.heap.objs.size _ _ h' tk ⟨ex, ey⟩ (.inl ⟨_, a5, rfl, _, rfl⟩) ⟨hk _ _ S.TIz S.TIi1 S.TIi2 hTI, a3, a4, .inr ⟨T, true, oT, a1, hk _ _ r1 r2 r3 hT, r1, r2, r3, r4⟩⟩ fun c o hc e => ?_
        simp only [List.mem_cons, List.not_mem_nil, or_false, not_or] at hc
        exact hk c o hc.1 hc.2.2.1 hc.2.2.2 e
    · rintro s₁ Q₁ E₁ ⟨hTI, st1, st2, hz⟩ hQ
      have D1 := Draws.list (prog := prog) (w := w) (A := A.in1) hA i1 l1 ne1 xs
      have D2 := Draws.tuple (prog := prog) (w := w) (A := A.in1) hA i2 l2 ne2 ys
      rcases hz with ⟨hz, a, b, hTO⟩ | ⟨T, f, oT, hz, hT, r1, r2, r3, r4⟩
      · refine wpAny_pyNext_zipD2_end S D1 D2 hz hTI hTO st1 st2 (by omega) (by omega) (by omega) fun h' tk hk => hQ h' tk fun c o hc e => ?_
        simp only [List.mem_cons, List.not_mem_nil, or_false, not_or] at hc
        exact hk c o hc.1 hc.2.1 hc.2.2.1 hc.2.2.2 e
      · refine zh_stop S D1 D2 hz hT hTI st1 st2 (by omega) (by omega) (by omega) fun h' tk hk => hQ h' tk fun c o hc e => ?_
        simp only [List.mem_cons, List.not_mem_nil, or_false, not_or] at hc
        exact hk c o hc.1 hc.2.2.1 hc.2.2.2 e
end

/-! ### the rule -/
def tDictZ (K : PySem.W.Frag) (ta : TA) : TE := fun σ H Q => ta σ H fun vs H1 => ∃ (a b : Addr) (xs : List Str) (is : List Int), vs = [.ref a, .ref b] ∧ SqL K H1 a (xs.map V.str) ∧ SqT K H1 b (is.map V.int) ∧ xs.length = is.length ∧ ∀ p, H1 p = none → Q (.ref p) (upd H1 p (.dK (mergeK [] (envK (xs.zip is)))))
theorem zip_kv : ∀ {xs : List Str} {is : List Int} {us vs : List Value}, Vals (xs.map V.str) us → Vals (is.map V.int) vs → xs.length = is.length → ∃ kvs : List (Key × Value), KV (envK (xs.zip is)) kvs ∧ kvs.length = xs.length ∧ ∀ (i : Nat) (k v : Value), us[i]? = some k → vs[i]? = some v → ∃ q : Key, kvs[i]? = some (q, v) ∧ keyIs q k = true
  | [], [], _, _, r, t, _ => by
    cases r
    exact ⟨[], .nil, rfl, fun i k v e => by simp at e⟩
  | [], _ :: _, _, _, _, _, e => by simp at e
  | _ :: _, [], _, _, _, _, e => by simp at e
  | x :: xs, n :: is, _, _, r, t, e => by
    cases r with
    | cons r1 r2 =>
      cases t with
      | cons t1 t2 =>
        rename_i u us v vs
        obtain ⟨kvs, hk, hl, hi⟩ := zip_kv r2 t2 (by simpa using e)
        refine ⟨((Sum.inr x : Key), v) :: kvs, .cons ⟨rfl, t1⟩ hk, by simp [hl], fun i k y e1 e2 => ?_⟩
        cases i with
        | zero =>
          simp at e1 e2
          subst e1 e2
          refine ⟨Sum.inr x, by simp, ?_⟩
          obtain ⟨tk, rfl⟩ := (show ∃ tk, u = Value.str x tk from r1)
          simp [keyIs, Value.isStrOf]
        | succ j =>
          obtain ⟨q, q1, q2⟩ := hi j k y (by simpa using e1) (by simpa using e2)
          exact ⟨q, by simpa using q1, q2⟩
theorem pe_dictZ {X : Cx} {a b : Expr} {ta : TA} {p p2 q pos : Pos} (hg : Gl X "dict") (hm : X.mg "dict" = none) (hg2 : Gl X "zip") (hm2 : X.mg "zip" = none) (ha : PA X [a, b] ta) (hc : X.calm = true := by rfl) (hs : starEach [a, b] X.env = (false, eval a X.env) :: starEach [b] X.env := by rfl) (hpl : (backTo q (starEach [b] X.env)).any (·.1) = false := by rfl)
    (na : starEach [.Call (.Name "zip" p2) [a, b] [] q] X.env = (false, eval (.Call (.Name "zip" p2) [a, b] [] q) X.env) :: starEach [] X.env := by rfl) : PE X (.Call (.Name "dict" p) [.Call (.Name "zip" p2) [a, b] [] q] [] pos) (tDictZ X.K ta) := by
  refine ⟨fun pins s σ H Q I h => Call_ (ld_blt I hg hm bt_dict (PyProof.Rows.callWith_type1 (PyProof.Rows.args_cons ?_ na) na rfl))⟩
  refine Call_ (ld_blt I hg2 hm2 PyProof.Rows.boot_zip (PyProof.Rows.callWith_type1 (thn (ha.run q pins s σ H _ I h) fun us s1 ⟨vs, H1, I1, r1, q1⟩ => ?_) hs hpl))
  obtain ⟨a1, b1, xs, is, rfl, hx, hy, hlen, q1⟩ := q1
  cases r1 with
  | cons r rr =>
    cases rr with
    | cons r' rr =>
      cases rr
      cases r
      cases r'
      obtain ⟨its, rv, pl, hz⟩ := I1.list hx
      obtain ⟨its2, rv2, pt, hz2⟩ := I1.tuple hy
      have pl' : s1.heap.IsList a1 its.toArray := pl.isList
      have pt' : s1.heap.IsTuple b1 its2.toArray := pt
      refine zip_begins2 (begins_list a1 its.toArray) (begins_tuple b1 its2.toArray) pl' pt' fun h' hz' hTI hTO g1 g2 hsz hk => PyProof.Rows.args_nil ?_
      have la : a1 < s1.heap.objs.size := let ⟨_, e, _⟩ := pl'; Heap.lt_size e
      have lb : b1 < s1.heap.objs.size := let ⟨_, e, _⟩ := pt'; Heap.lt_size e
      generalize em : s1.heap.objs.size = m at hz' hTI hTO g1 g2 hsz la lb
      have la' : (a1 : Nat) < m := la
      have lb' : (b1 : Nat) < m := lb
      have N : [m + 4, m + 2, m + 3, m, m + 1].Nodup ∧ ∀ l ∈ [a1, b1], l ∉ [m + 4, m + 2, m + 3, m, m + 1] := by
        constructor
        · simp
        · intro l hl
          simp at hl ⊢
          have hl' : l < m := by rcases hl with e | e <;> (rw [e]; assumption)
          exact ⟨Nat.ne_of_lt (Nat.lt_of_lt_of_le hl' (Nat.le_add_right _ _)), Nat.ne_of_lt (Nat.lt_of_lt_of_le hl' (Nat.le_add_right _ _)), Nat.ne_of_lt (Nat.lt_of_lt_of_le hl' (Nat.le_add_right _ _)), Nat.ne_of_lt hl', Nat.ne_of_lt (Nat.lt_of_lt_of_le hl' (Nat.le_add_right _ _))⟩
      obtain ⟨kvs, rel, hl, hi⟩ := zip_kv rv rv2 hlen
      have l1 : its.length = xs.length := by rw [← rv.length, List.length_map]
      have l2 : its2.length = is.length := by rw [← rv2.length, List.length_map]
      have hn : min its.toArray.size its2.toArray.size = xs.length := by simp; omega
      refine call_dict_pairs (knd := mixKind X.prog X.w) (kvs := kvs) (zArg _ _ _ _ _ a1 b1 N its.toArray its2.toArray) (I1.ok.hd hc) ⟨hz', hTI, ⟨_, _, hTO⟩, ⟨⟨_, g1, rfl, rfl⟩, pl'.at fun o e => hk _ o e⟩, ⟨_, g2, rfl, rfl⟩, pt'.at fun o e => hk _ o e⟩ ⟨by rw [hl, hn], fun i k v e => hi i k v (by simpa using e.1) (by simpa using e.2)⟩ ?_ fun h'' tk hd hk2 => ?_
      · rw [hn, ← List.length_map (f := V.str)]
        exact hz
      · have kk : ∀ c o, s1.heap.get? c = some o → h''.get? c = some o := fun c o e => hk2 c o (fun hc' => by
          have hlt := Heap.lt_size e
          rw [em] at hlt
          simp only [List.mem_cons, List.not_mem_nil, or_false] at hc'
          have big : m ≤ c := by rcases hc' with e | e | e | e <;> rw [e] <;> first | exact Nat.le_refl _ | exact Nat.le_add_right _ _
          exact absurd hlt (Nat.not_lt.mpr big)) (hk c o e)
        have hp : s1.heap.objs.size ≤ h'.objs.size := by rw [hsz, em]; exact Nat.le_add_right _ _
        have hbig := I1.big
        have hsm : (h'.objs.size == sysModules) = false := beq_eq_false_iff_ne.mpr (Nat.ne_of_gt (Nat.lt_of_lt_of_le hbig hp))
        have hml : (mergeK [] (envK (xs.zip is))).length ≤ sizeLine := by
          refine Nat.le_trans (length_mergeK _ []) ?_
          have h3 : (envK (xs.zip is)).length = xs.length := by unfold envK; simp; omega
          rw [h3, List.length_nil, Nat.zero_add, ← List.length_map (f := V.str)]
          exact hz
        exact ⟨.ref h'.objs.size, upd H1 h'.objs.size (.dK (mergeK [] (envK (xs.zip is)))), I1.laid (t' := tk) kk hp (show ObjOk X.prog X.w _ _ _ (.dK (mergeK [] (envK (xs.zip is)))) from ⟨hml, hsm, merged [] kvs, KV.merge rel .nil, hd⟩), rfl, q1 _ (I1.hok.fresh hp)⟩
/-- names that differ: the dict is the pairs as they come -/
theorem mergeK_nodup : ∀ (es acc : List (Str × Int)), (acc ++ es).map Prod.fst |>.Nodup → mergeK (envK acc) (envK es) = envK (acc ++ es)
  | [], acc, _ => by
    rw [List.append_nil] <;> rfl
  | e :: es, acc, h => by
    have h1 : putK (envK acc) (Sum.inr e.1 : Key) (V.int e.2) = envK (acc ++ [e]) := by
      unfold putK
      rw [if_neg]
      · unfold envK
        rw [List.map_append] <;> rfl
      · intro hany
        obtain ⟨p, hp, ep⟩ := List.any_eq_true.mp hany
        unfold envK at hp
        obtain ⟨y, hy, rfl⟩ := List.mem_map.mp hp
        have ey : y.1 = e.1 := Sum.inr.inj (of_decide_eq_true ep)
        rw [List.map_append] at h
        exact (List.nodup_append.mp h).2.2 y.1 (List.mem_map.mpr ⟨y, hy, rfl⟩) e.1 (List.mem_cons_self ..) ey
    show mergeK (putK (envK acc) (Sum.inr e.1 : Key) (V.int e.2)) (envK es) = _
    rw [h1, mergeK_nodup es (acc ++ [e]) (by rw [List.append_assoc]; exact h), List.append_assoc] <;> rfl
theorem e_dictZ {K : PySem.W.Frag} {σ : L2.St} {H : Hp} {ta : TA} {xs : List Str} {is : List Int} (h : EA K ta σ H [.list (xs.map PyData.str), .tuple (is.map PyData.int)]) (hn : xs.Nodup) (hl : xs.length = is.length) : E K (tDictZ K ta) σ H (envD (xs.zip is)) := fun H1 e Q q =>
  h H1 e _ fun vs H2 e2 r => by
    obtain ⟨v, w, rfl, r1, r2⟩ := r.i2
    obtain ⟨a, ys, rfl, ha, hy⟩ := r1.lst_inv
    obtain ⟨b, zs, rfl, hb, hz⟩ := r2.tup_inv
    rw [hy.strs] at ha
    rw [hz.ints] at hb
    refine ⟨a, b, xs, is, rfl, sq_of ha, hb, hl, fun p hp => ?_⟩
    have e1 : mergeK [] (envK (xs.zip is)) = envK (xs.zip is) := mergeK_nodup (xs.zip is) [] (by
      rw [List.nil_append, List.map_fst_zip (Nat.le_of_eq hl)]
      exact hn)
    rw [e1]
    exact q _ _ (e2.trans (Ex.new hp)) (.mkEnv upd_same)
end K27

/-! K27: lassoproof/lassos/meaning.py, the small defs; lassoproof/lassos/progress.py. -/
namespace K27
open PySem PySem.Spec PyProof.Rows L2 Evl
local macro_rules | `(tactic| walk_at "ev") => `(tactic| first
  | exact ev_c
  | exact ev_var rfl
  | (refine' et_test ?h; (case h => walk_at "ev"))
  | (refine' et_B ?h; (case h => walk_at "ev"))
  | (refine' et_not ?h; (case h => walk_at "ev"))
  | (refine' et_and ?a (fun _ => ?b); (case a => walk_at "ev"); (case b => walk_at "ev"))
  | (refine' et_or ?a (fun _ => ?b); (case a => walk_at "ev"); (case b => walk_at "ev"))
  | (refine' ev_op ?a ?b (rv_eq ?c); (case a => walk_at "ev"); (case b => walk_at "ev"); (case c => rfl))
  | (refine' ev_op ?a ?b rv_I0; (case a => walk_at "ev"); (case b => walk_at "ev"))
  | (refine' ev_inU ?a ?b ?c ?d; (case a => walk_at "ev"); (case b => (refine' eu_tup ?x ?y; (case x => walk_at "ev"); (case y => decide))); (case c => rfl); (case d => rfl))
  | (refine' ev_str (e_ixT ?a ?b ?c); (case a => walk_at "ed"); (case b => walk_at "ev"); (case c => first | exact at0 | exact at1 | exact at2))
  | (refine' ev_int (e_ixT ?a ?b ?c); (case a => walk_at "ed"); (case b => walk_at "ev"); (case c => first | exact at0 | exact at1 | exact at2))
  | exact Evl.ea_nil
  | (refine' Evl.ea_cons ?a ?b; (case a => walk_at "ev"); (case b => walk_at "ev")))
local macro_rules | `(tactic| walk_at "ed") => `(tactic| first
  | exact e_var rfl (by assumption)
  | exact e_var rfl (by constructor)
  | exact K27.ea_nil
  | (refine' K27.ea_cons ?a ?b; (case a => walk_at "ed"); (case b => walk_at "ed"))
  | (refine' e_tup ?a ?b; (case a => walk_at "ed"); (case b => (simp only [List.length_cons, List.length_nil, List.length_append]; omega)))
  | (refine' e_ixT ?a ?b ?c; (case a => walk_at "ed"); (case b => walk_at "ev"); (case c => first | exact at0 | exact at1 | exact at2))
  | (refine' e_ev ?a ?b; (case a => walk_at "ev"); (case b => first | exact .str _ | exact .int _ | exact .bl _ | assumption)))
theorem dec_str2 {x y : Str} : decide (V.str x = V.str y) = decide (x = y) := by
  by_cases h : x = y
  · subst h; simp
  · rw [decide_eq_false h, decide_eq_false fun z => h (V.str.inj z)]
theorem dec_bl2 {x y : Bool} : decide (V.bl x = V.bl y) = (x == y) := by cases x <;> cases y <;> rfl
theorem str_t {x y : Str} (h : decide (V.str x = V.str y) = true) : x = y := V.str.inj (of_decide_eq_true h)
theorem str_f {x y : Str} (h : decide (V.str x = V.str y) = false) : ¬ x = y := fun e => of_decide_eq_false h (e ▸ rfl)
/-- one place's truth from the next's -/
def stp (w : Str) (a b c : Bool) : Bool := if w = "eventually" then a || c else if w = "always" then a && c else if w = "until" ∨ w = "unless" then b || (a && c) else b && (a || c)
def plt (w : Str) (a b : Bool) : Bool := if w = "not" then !a else if w = "and" then a && b else if w = "or" then a || b else if w = "implies" then !a || b else a == b
section
variable {P : Program} {w : World} {K : PySem.W.Frag} {mg : Str → Option Value} {base : Heap}
/-! ### step_truth, plain_truth -/
abbrev s_step_truth : Stmt := topS 31
abbrev N_step_truth : List Str := ["word", "first", "second", "following"]
theorem sc_step_truth : FnScope N_step_truth ["word", "first", "second", "following"] (defScope s_step_truth) := ⟨rfl, rfl, rfl, by decide +kernel, rfl, by decide +kernel, by decide +kernel⟩
def R_step_truth : Rl := fun ds d => ∃ (x : Str) (a b c : Bool), ds = [.str x, .bool a, .bool b, .bool c] ∧ d = .bool (stp x a b c)
theorem ok_step_truth (D : Def K mg "step_truth" s_step_truth ["word", "first", "second", "following"]) : FnAt P w K mg base 1 "step_truth" ["word", "first", "second", "following"] (spR K R_step_truth) := by
  refine D.ok sc_step_truth (fun ds d ⟨x, a, b, c, h, _⟩ => by rw [h] <;> rfl) fun f0 cdv A outer s H vs Q E ds d hr hv hR q => ?_
  obtain ⟨x, a, b, c, rfl, rfl⟩ := hR
  obtain ⟨v0, v1, v2, v3, rfl, h0, h1, h2, h3⟩ := hv.i4
  obtain rfl := h0.str_inv
  obtain rfl := h1.bl_inv
  obtain rfl := h2.bl_inv
  obtain rfl := h3.bl_inv
  refine ⟨_, (pss_cons (ps_if (pt_cmpR op_eq (pv 0) pe_str (nomark _)) (pss_one (ps_ret (pe_or (pv 1) (pe_one (pv 3))))) pss_nil)
      (pss_cons (ps_if (pt_cmpR op_eq (pv 0) pe_str (nomark _)) (pss_one (ps_ret (pe_and (pv 1) (pe_one (pv 3))))) pss_nil)
      (pss_cons (ps_if (PW.pt (pw_or (pt_cmpR op_eq (pv 0) pe_str (nomark _)) (pw_or1 (pt_cmpR op_eq (pv 0) pe_str (nomark _))))) (pss_one (ps_ret (pe_or (pv 2) (pe_one (pe_and (pv 1) (pe_one (pv 3))))))) pss_nil)
      (pss_one (ps_ret (pe_and (pv 2) (pe_one (pe_or (pv 1) (pe_one (pv 3)))))))))), ?_⟩
  try dsimp only [cxOf]
  refine b_when (Ex.refl H) (by walk_at "ev") (fun b1 H1 e1 => ?_) fun b1 H1 e1 => ?_
  · refine b_ret e1 (e_bl (ev_is (ev_orV (ev_var rfl) fun _ => ev_var rfl) ?_)) q
    unfold stp; rw [if_pos (str_t b1)]
  refine b_when e1 (by walk_at "ev") (fun b2 H2 e2 => ?_) fun b2 H2 e2 => ?_
  · refine b_ret e2 (e_bl (ev_is (ev_andV (ev_var rfl) fun _ => ev_var rfl) ?_)) q
    unfold stp; rw [if_neg (str_f b1), if_pos (str_t b2)]
  refine b_when e2 (by walk_at "ev") (fun b3 H3 e3 => ?_) fun b3 H3 e3 => ?_
  · refine b_ret e3 (e_bl (ev_is (ev_orV (ev_var rfl) fun _ => ev_andV (ev_var rfl) fun _ => ev_var rfl) ?_)) q
    rw [Bool.or_eq_true] at b3
    unfold stp; rw [if_neg (str_f b1), if_neg (str_f b2), if_pos (b3.imp str_t str_t)]
  · refine b_ret e3 (e_bl (ev_is (ev_andV (ev_var rfl) fun _ => ev_orV (ev_var rfl) fun _ => ev_var rfl) ?_)) q
    rw [Bool.or_eq_false_iff] at b3
    unfold stp; rw [if_neg (str_f b1), if_neg (str_f b2), if_neg (fun z => z.elim (str_f b3.1) (str_f b3.2))]
abbrev s_plain_truth : Stmt := topS 33
abbrev N_plain_truth : List Str := ["word", "first", "second"]
theorem sc_plain_truth : FnScope N_plain_truth ["word", "first", "second"] (defScope s_plain_truth) := ⟨rfl, rfl, rfl, by decide +kernel, rfl, by decide +kernel, by decide +kernel⟩
def R_plain_truth : Rl := fun ds d => ∃ (x : Str) (a b : Bool), ds = [.str x, .bool a, .bool b] ∧ d = .bool (plt x a b)
theorem ok_plain_truth (D : Def K mg "plain_truth" s_plain_truth ["word", "first", "second"]) : FnAt P w K mg base 1 "plain_truth" ["word", "first", "second"] (spR K R_plain_truth) := by
  refine D.ok sc_plain_truth (fun ds d ⟨x, a, b, h, _⟩ => by rw [h] <;> rfl) fun f0 cdv A outer s H vs Q E ds d hr hv hR q => ?_
  obtain ⟨x, a, b, rfl, rfl⟩ := hR
  obtain ⟨v0, v1, v2, rfl, h0, h1, h2⟩ := hv.i3
  obtain rfl := h0.str_inv
  obtain rfl := h1.bl_inv
  obtain rfl := h2.bl_inv
  refine ⟨_, (pss_cons (ps_if (pt_cmpR op_eq (pv 0) pe_str (nomark _)) (pss_one (ps_ret (pe_not (pv 1)))) pss_nil)
      (pss_cons (ps_if (pt_cmpR op_eq (pv 0) pe_str (nomark _)) (pss_one (ps_ret (pe_and (pv 1) (pe_one (pv 2))))) pss_nil)
      (pss_cons (ps_if (pt_cmpR op_eq (pv 0) pe_str (nomark _)) (pss_one (ps_ret (pe_or (pv 1) (pe_one (pv 2))))) pss_nil)
      (pss_cons (ps_if (pt_cmpR op_eq (pv 0) pe_str (nomark _)) (pss_one (ps_ret (pe_or (pe_not (pv 1)) (pe_one (pv 2))))) pss_nil)
      (pss_one (ps_ret (pe_cmpR op_eq (pv 1) (pv 2) (nomark _)))))))), ?_⟩
  try dsimp only [cxOf]
  refine b_when (Ex.refl H) (by walk_at "ev") (fun b1 H1 e1 => ?_) fun b1 H1 e1 => ?_
  · refine b_ret e1 (e_bl (ev_is (ev_notV (ev_var rfl)) ?_)) q
    unfold plt; rw [if_pos (str_t b1)]
  refine b_when e1 (by walk_at "ev") (fun b2 H2 e2 => ?_) fun b2 H2 e2 => ?_
  · refine b_ret e2 (e_bl (ev_is (ev_andV (ev_var rfl) fun _ => ev_var rfl) ?_)) q
    unfold plt; rw [if_neg (str_f b1), if_pos (str_t b2)]
  refine b_when e2 (by walk_at "ev") (fun b3 H3 e3 => ?_) fun b3 H3 e3 => ?_
  · refine b_ret e3 (e_bl (ev_is (ev_orV (ev_var rfl) fun _ => ev_var rfl) ?_)) q
    unfold plt; rw [if_neg (str_f b1), if_neg (str_f b2), if_pos (str_t b3)]
  refine b_when e3 (by walk_at "ev") (fun b4 H4 e4 => ?_) fun b4 H4 e4 => ?_
  · refine b_ret e4 (e_bl (ev_is (ev_orV (ev_notV (ev_var rfl)) fun _ => ev_var rfl) ?_)) q
    unfold plt; rw [if_neg (str_f b1), if_neg (str_f b2), if_neg (str_f b3), if_pos (str_t b4)]
  · refine b_ret e4 (e_bl (ev_is (ev_op (ev_var rfl) (ev_var rfl) (rv_eq rfl)) ?_)) q
    unfold plt; rw [if_neg (str_f b1), if_neg (str_f b2), if_neg (str_f b3), if_neg (str_f b4), dec_bl2]
/-! ### constant -/
abbrev s_constant : Stmt := topS 38
abbrev N_constant : List Str := ["bit"]
theorem sc_constant : FnScope N_constant ["bit"] (defScope s_constant) := ⟨rfl, rfl, rfl, by decide +kernel, rfl, by decide +kernel, by decide +kernel⟩
def R_constant : Rl := fun ds d => ∃ (a : Bool), ds = [.bool a] ∧ d = (cst a).d
theorem ok_constant (D : Def K mg "constant" s_constant ["bit"]) : FnAt P w K mg base 1 "constant" ["bit"] (spR K R_constant) := by
  refine D.ok sc_constant (fun ds d ⟨a, h, _⟩ => by rw [h] <;> rfl) fun f0 cdv A outer s H vs Q E ds d hr hv hR q => ?_
  obtain ⟨a, rfl, rfl⟩ := hR
  obtain ⟨v0, rfl, h0⟩ := hv.i1
  obtain rfl := h0.bl_inv
  refine ⟨_, (pss_cons (ps_if (pt_val (pv 0)) (pss_one (ps_ret (pe_tup (pa_cons pe_str pa_nil)))) pss_nil)
      (pss_one (ps_ret (pe_tup (pa_cons pe_str pa_nil))))), ?_⟩
  try dsimp only [cxOf]
  refine b_when (Ex.refl H) (et_B (ev_var rfl)) (fun b1 H1 e1 => ?_) fun b1 H1 e1 => ?_
  · subst b1
    exact b_ret e1 (d := Fm.tt.d) (e_tup (K27.ea_cons (e_str ev_c) K27.ea_nil) (by simp)) q
  · subst b1
    exact b_ret e1 (d := Fm.ff.d) (e_tup (K27.ea_cons (e_str ev_c) K27.ea_nil) (by simp)) q
end
end K27

/-! K27: ask_names; moved. -/
namespace K27
open PySem PySem.Spec PyProof.Rows L2 Evl
local macro_rules | `(tactic| walk_at "ev") => `(tactic| first
  | exact ev_c
  | exact ev_var rfl
  | (refine' et_test ?h; (case h => walk_at "ev"))
  | (refine' et_B ?h; (case h => walk_at "ev"))
  | (refine' et_not ?h; (case h => walk_at "ev"))
  | (refine' et_and ?a (fun _ => ?b); (case a => walk_at "ev"); (case b => walk_at "ev"))
  | (refine' et_or ?a (fun _ => ?b); (case a => walk_at "ev"); (case b => walk_at "ev"))
  | (refine' ev_op ?a ?b (rv_eq ?c); (case a => walk_at "ev"); (case b => walk_at "ev"); (case c => rfl))
  | (refine' ev_op ?a ?b rv_I0; (case a => walk_at "ev"); (case b => walk_at "ev"))
  | (refine' ev_inU ?a ?b ?c ?d; (case a => walk_at "ev"); (case b => (refine' eu_tup ?x ?y; (case x => walk_at "ev"); (case y => decide))); (case c => rfl); (case d => rfl))
  | (refine' ev_str (e_ixT ?a ?b ?c); (case a => walk_at "ed"); (case b => walk_at "ev"); (case c => first | exact at0 | exact at1 | exact at2))
  | (refine' ev_int (e_ixT ?a ?b ?c); (case a => walk_at "ed"); (case b => walk_at "ev"); (case c => first | exact at0 | exact at1 | exact at2))
  | exact Evl.ea_nil
  | (refine' Evl.ea_cons ?a ?b; (case a => walk_at "ev"); (case b => walk_at "ev")))
local macro_rules | `(tactic| walk_at "ed") => `(tactic| first
  | exact e_var rfl (by assumption)
  | exact e_var rfl (by constructor)
  | exact K27.ea_nil
  | (refine' K27.ea_cons ?a ?b; (case a => walk_at "ed"); (case b => walk_at "ed"))
  | (refine' e_tup ?a ?b; (case a => walk_at "ed"); (case b => (simp only [List.length_cons, List.length_nil, List.length_append]; omega)))
  | (refine' e_ixT ?a ?b ?c; (case a => walk_at "ed"); (case b => walk_at "ev"); (case c => first | exact at0 | exact at1 | exact at2))
  | (refine' e_ev ?a ?b; (case a => walk_at "ev"); (case b => first | exact .str _ | exact .int _ | exact .bl _ | assumption)))
/-! ### the names of a formula -/
theorem foldl_mrg_mem {x : Str} : ∀ (xss : List (List Str)) (acc : List Str), x ∈ xss.foldl mrg acc → x ∈ acc ∨ ∃ ys ∈ xss, x ∈ ys
  | [], acc, h => .inl h
  | ys :: r, acc, h => by
    rcases foldl_mrg_mem r (mrg acc ys) h with q | ⟨zs, h1, h2⟩
    · rcases mrg_mem q with q | q
      · exact .inl q
      · exact .inr ⟨ys, List.mem_cons_self .., q⟩
    · exact .inr ⟨zs, List.mem_cons_of_mem _ h1, h2⟩
/-- names_in's answer, all among N -/
def NRN (N : List Str) (n : Nat) (d : PyData) : Prop := ∃ xs, NR n d xs ∧ ∀ x ∈ xs, x ∈ N
theorem Tm.isTup (t : Tm) : isTupD t.d = true := by cases t <;> rfl
theorem Fm.isTup (f : Fm) : isTupD f.d = true := by cases f <;> rfl
theorem nrn_none {N : List Str} {n : Nat} {x : Str} {rest : List PyData} (hx : x ≠ "name") (hp : pls rest = true) (hl : rest.length ≤ 2) (hf : rest.filter isTupD = []) : NRN N (n + 1) (.tuple (.str x :: rest)) :=
  ⟨[], .inr ⟨x, rest, [], rfl, hx, hp, hl, by rw [hf]; exact .nil, rfl⟩, fun _ h => (by cases h)⟩
theorem nrn_one {N : List Str} {n : Nat} {x : Str} {rest : List PyData} {d : PyData} (hx : x ≠ "name") (hp : pls rest = true) (hl : rest.length ≤ 2) (hf : rest.filter isTupD = [d]) (h : NRN N n d) : NRN N (n + 1) (.tuple (.str x :: rest)) := by
  obtain ⟨xs, h1, h2⟩ := h
  refine ⟨_, .inr ⟨x, rest, [xs], rfl, hx, hp, hl, by rw [hf]; exact .cons h1 .nil, rfl⟩, fun y hy => ?_⟩
  rcases foldl_mrg_mem [xs] [] hy with q | ⟨zs, q1, q2⟩
  · cases q
  · obtain rfl := List.mem_singleton.mp q1
    exact h2 y q2
theorem nrn_two {N : List Str} {n : Nat} {x : Str} {d e : PyData} (hx : x ≠ "name") (hp : pls [d, e] = true) (hd : isTupD d = true) (he : isTupD e = true) (h : NRN N n d) (h' : NRN N n e) : NRN N (n + 1) (.tuple [.str x, d, e]) := by
  obtain ⟨xs, h1, h2⟩ := h
  obtain ⟨ys, h3, h4⟩ := h'
  have hf : [d, e].filter isTupD = [d, e] := by simp [hd, he]
  refine ⟨_, .inr ⟨x, [d, e], [xs, ys], rfl, hx, hp, (by simp), by rw [hf]; exact .cons h1 (.cons h3 .nil), rfl⟩, fun y hy => ?_⟩
  rcases foldl_mrg_mem [xs, ys] [] hy with q | ⟨zs, q1, q2⟩
  · cases q
  · rcases List.mem_cons.mp q1 with rfl | q1
    · exact h2 y q2
    · obtain rfl := List.mem_singleton.mp q1
      exact h4 y q2
theorem pl_two {d e : PyData} (h : pl d = true) (h' : pl e = true) : pls [d, e] = true := by
  show (pl d && (pl e && true)) = true
  rw [h, h'] <;> rfl
theorem pl_one {d : PyData} (h : pl d = true) : pls [d] = true := by
  show (pl d && true) = true
  rw [h] <;> rfl
theorem Tm.nrn {N : List Str} : ∀ (t : Tm) (n : Nat), t.fine N → t.dp ≤ n → NRN N n t.d
  | .num k, 0, _, h => by simp [Tm.dp] at h
  | .num k, n + 1, _, _ => nrn_none (by decide +kernel) rfl (by simp) rfl
  | .nm w, 0, _, h => by simp [Tm.dp] at h
  | .nm w, n + 1, hf, _ => ⟨[w], .inl ⟨w, rfl, rfl⟩, fun x hx => by rw [List.mem_singleton.mp hx]; exact hf⟩
  | .neg t, 0, _, h => by simp [Tm.dp] at h
  | .neg t, n + 1, hf, h => nrn_one (d := t.d) (by decide +kernel) (pl_one t.pl) (by simp) (by simp [t.isTup]) (Tm.nrn t n hf (Nat.le_of_succ_le_succ h))
  | .opk o t k, 0, _, h => by simp [Tm.dp] at h
  | .opk o t k, n + 1, hf, h => nrn_one (d := t.d) (by cases o <;> decide +kernel) (pl_two t.pl rfl) (by simp) (by
      have e : isTupD (.int k) = false := rfl
      simp [t.isTup, e]) (Tm.nrn t n hf.1 (Nat.le_of_succ_le_succ h))
  | .op2 o t u, 0, _, h => by simp [Tm.dp] at h
  | .op2 o t u, n + 1, hf, h => by
    have hd' : max t.dp u.dp + 1 ≤ n + 1 := h
    exact nrn_two (by cases o <;> decide +kernel) (pl_two t.pl u.pl) t.isTup u.isTup (Tm.nrn t n hf.1 (by omega)) (Tm.nrn u n hf.2.1 (by omega))
theorem Fm.nrn {N : List Str} : ∀ (f : Fm) (n : Nat), f.fine N → f.dp + 3 ≤ n → NRN N n f.d
  | _, 0, _, h => by omega
  | .tt, n + 1, _, _ => nrn_none (by decide +kernel) rfl (by simp) rfl
  | .ff, n + 1, _, _ => nrn_none (by decide +kernel) rfl (by simp) rfl
  | .cmp c t u, n + 1, hf, h => by
    have e : (Fm.cmp c t u).dp = 1 := rfl
    have h1 := hf.1.2
    have h2 := hf.2.2
    exact nrn_two (by cases c <;> decide +kernel) (pl_two t.pl u.pl) t.isTup u.isTup (Tm.nrn t n hf.1.1 (by omega)) (Tm.nrn u n hf.2.1 (by omega))
  | .un o f, n + 1, hf, h => by
    have e : (Fm.un o f).dp = f.dp + 1 := rfl
    exact nrn_one (d := f.d) (by cases o <;> decide +kernel) (pl_one f.pl) (by simp) (by simp [f.isTup]) (Fm.nrn f n hf (by omega))
  | .bi o f g, n + 1, hf, h => by
    have e : (Fm.bi o f g).dp = max f.dp g.dp + 1 := rfl
    exact nrn_two (by cases o <;> decide +kernel) (pl_two f.pl g.pl) f.isTup g.isTup (Fm.nrn f n hf.1 (by omega)) (Fm.nrn g n hf.2 (by omega))
section
variable {P : Program} {w : World} {K : PySem.W.Frag} {mg : Str → Option Value} {base : Heap}
/-! ### ask_names -/
abbrev s_ask_names : Stmt := topS 30
abbrev N_ask_names : List Str := ["formula", "names", "name"]
theorem sc_ask_names : FnScope N_ask_names ["formula", "names"] (defScope s_ask_names) := ⟨rfl, rfl, rfl, by decide +kernel, rfl, by decide +kernel, by decide +kernel⟩
def spAsk (K : PySem.W.Frag) (N : List Str) : Sp := fun vs H Q _ => ∃ (v vn : V) (f : Fm), vs = [v, vn] ∧ Da K H v f.d ∧ Da K H vn (.list (N.map PyData.str)) ∧ f.fine N ∧ f.dp ≤ 12 ∧ ∀ H', Ex H H' → Q .non H'
theorem ok_ask_names {N : List Str} (G_names_in : FnAt P w K mg base 17 "names_in" ["tree"] (spN K (R_names_in 16))) (D : Def K mg "ask_names" s_ask_names ["formula", "names"]) : FnAt P w K mg base 18 "ask_names" ["formula", "names"] (spAsk K N) := by
  obtain ⟨f0, fd, F, hm, hb⟩ := D
  refine ⟨f0, fd, F.kp, hm, hb, F.ok sc_ask_names (fun vs H Q E ⟨v, vn, f, h, _⟩ => by rw [h] <;> rfl) fun cdv A outer s H vs Q E hr h => ?_⟩
  obtain ⟨v, vn, f, rfl, hv, hvn, hf, hd, q⟩ := h
  obtain ⟨ys, hNR, hys⟩ := f.nrn 16 hf (by omega)
  obtain ⟨an, xs, rfl, han, hxs⟩ := hvn.lst_inv
  obtain rfl := hxs.strs
  refine ⟨_, (pss_one (ps_for PassesOwn.never rfl (pi_list (pe_callX G_names_in hr (pa_cons (pv 0) pa_nil))) (pg_name (i := 2) sc_ask_names.nd rfl (by first | exact Or.inl rfl | exact Or.inr rfl)) (pss_one (ps_if (pt_cmpR op_notIn_seq (pv 2) (pv 1) (by rfl)) (pss_one ps_never) pss_nil)))), ?_⟩
  try dsimp only [cxOf]
  refine b_forL1 (Ex.refl H) (l_call (ds := [f.d]) (K27.ea_cons (e_var rfl hv) K27.ea_nil) ⟨f.d, ys, rfl, hNR, Nat.le_refl _, rfl⟩) (fun p vs i σ' H' => (∃ o, σ' = [some v, some (.ref an), o]) ∧ Ex H H' ∧ H' p = some (.lst vs) ∧ vs = ys.map V.str) (fun p vs H1 hp e1 h1 r1 => ⟨⟨none, rfl⟩, e1, h1, r1.strs⟩) (fun p vs i σ' H' h => h.2.2.1) ?_ ?_
  · rintro p vs i x d σ' H' hl hx hd' ⟨⟨o, rfl⟩, e1, h1, rfl⟩
    rw [List.getElem?_map] at hx
    cases hyi : ys[i]? with
    | none =>
      rw [hyi] at hx
      cases hx
    | some nm =>
      rw [hyi] at hx
      cases hx
      have hin : nm ∈ N := hys nm (List.mem_of_getElem? hyi)
      have allf : ((N.map V.str).all flatV) = true := by
        rw [List.all_map]
        exact List.all_eq_true.mpr fun _ _ => rfl
      refine b_no1 (Ex.refl H') (et_test (ev_op (ev_var rfl) (ev_var rfl) (rv_niL (sq_of (e1 _ _ han)) rfl allf))) (by rw [inV_strs, decide_eq_true hin] <;> rfl) fun H2 e2 => ?_
      exact ⟨⟨_, rfl⟩, e1.trans e2, e2 _ _ h1, rfl⟩
  · rintro p vs σ' H' ⟨⟨o, rfl⟩, e1, h1, _⟩
    exact q H' e1
end
end K27

/-! K27: lassoproof/lassos/progress.py. -/
namespace K27
open PySem PySem.Spec PyProof.Rows L2 Evl
local macro_rules | `(tactic| walk_at "ev") => `(tactic| first
  | exact ev_c
  | exact ev_var rfl
  | (refine' et_test ?h; (case h => walk_at "ev"))
  | (refine' et_B ?h; (case h => walk_at "ev"))
  | (refine' et_not ?h; (case h => walk_at "ev"))
  | (refine' et_and ?a (fun _ => ?b); (case a => walk_at "ev"); (case b => walk_at "ev"))
  | (refine' et_or ?a (fun _ => ?b); (case a => walk_at "ev"); (case b => walk_at "ev"))
  | (refine' ev_op ?a ?b (rv_eq ?c); (case a => walk_at "ev"); (case b => walk_at "ev"); (case c => rfl))
  | (refine' ev_op ?a ?b rv_I0; (case a => walk_at "ev"); (case b => walk_at "ev"))
  | (refine' ev_inU ?a ?b ?c ?d; (case a => walk_at "ev"); (case b => (refine' eu_tup ?x ?y; (case x => walk_at "ev"); (case y => decide))); (case c => rfl); (case d => rfl))
  | (refine' ev_str (e_ixT ?a ?b ?c); (case a => walk_at "ed"); (case b => walk_at "ev"); (case c => first | exact at0 | exact at1 | exact at2))
  | (refine' ev_int (e_ixT ?a ?b ?c); (case a => walk_at "ed"); (case b => walk_at "ev"); (case c => first | exact at0 | exact at1 | exact at2))
  | exact Evl.ea_nil
  | (refine' Evl.ea_cons ?a ?b; (case a => walk_at "ev"); (case b => walk_at "ev")))
local macro_rules | `(tactic| walk_at "ed") => `(tactic| first
  | exact e_var rfl (by assumption)
  | exact e_var rfl (by constructor)
  | exact K27.ea_nil
  | (refine' K27.ea_cons ?a ?b; (case a => walk_at "ed"); (case b => walk_at "ed"))
  | (refine' e_tup ?a ?b; (case a => walk_at "ed"); (case b => (simp only [List.length_cons, List.length_nil, List.length_append]; omega)))
  | (refine' e_ixT ?a ?b ?c; (case a => walk_at "ed"); (case b => walk_at "ev"); (case c => first | exact at0 | exact at1 | exact at2))
  | (refine' e_ev ?a ?b; (case a => walk_at "ev"); (case b => first | exact .str _ | exact .int _ | exact .bl _ | assumption)))
def isT : Fm → Bool
  | .un .next _ => true
  | .un .ev _ => true
  | .un .al _ => true
  | .bi .untl _ _ => true
  | .bi .rel _ _ => true
  | .bi .unl _ _ => true
  | .bi .str _ _ => true
  | _ => false
def isB (w : Str) : Bool := inV (.str w) [.str "not", .str "and", .str "or", .str "implies", .str "same"]
section
variable {P : Program} {w : World} {K : PySem.W.Frag} {mg : Str → Option Value} {base : Heap}
def R_moved (N : List Str) (n : Nat) : Rl := fun ds d => ∃ (f : Fm) (es : List (Str × Int)) (r : Str → Int), ds = [f.d, envD es] ∧ f.fine N ∧ f.dp ≤ n ∧ EnvOf N es r ∧ d = (moved r f).d
def R_moved_temporal (N : List Str) (n : Nat) : Rl := fun ds d => ∃ (f : Fm) (es : List (Str × Int)) (r : Str → Int), ds = [f.d, envD es] ∧ f.fine N ∧ f.dp ≤ n ∧ EnvOf N es r ∧ isT f = true ∧ d = (moved r f).d
abbrev s_moved_temporal : Stmt := topS 39
abbrev N_moved_temporal : List Str := ["formula", "values", "word", "first", "second"]
theorem sc_moved_temporal : FnScope N_moved_temporal ["formula", "values"] (defScope s_moved_temporal) := ⟨rfl, rfl, rfl, by decide +kernel, rfl, by decide +kernel, by decide +kernel⟩
theorem ok_moved_temporal {N : List Str} {n k : Nat} (G_moved : FnAt P w K mg base k "moved" ["formula", "values"] (spR K (R_moved N n))) (D : Def K mg "moved_temporal" s_moved_temporal ["formula", "values"]) :
    FnAt P w K mg base (k + 1) "moved_temporal" ["formula", "values"] (spR K (R_moved_temporal N (n + 1))) := by
  refine D.ok sc_moved_temporal (fun ds d ⟨f, es, r, h, _⟩ => by rw [h] <;> rfl) fun f0 cdv A outer s H vs Q E ds d hr hv hR q => ?_
  obtain ⟨f, es, r, rfl, hf, hd, henv, hT, rfl⟩ := hR
  obtain ⟨v0, v1, rfl, h0, h1⟩ := hv.i2
  refine ⟨_, (pss_cons (ps_set (i := 2) sc_moved_temporal.nd rfl (by first | exact Or.inl rfl | exact Or.inr rfl) (pe_ix ix_tup (pv 0) pe_int (fun _ _ => rfl)))
      (pss_cons (ps_if (pt_cmpR op_eq (pv 2) pe_str (nomark _)) (pss_one (ps_ret (pe_ix ix_tup (pv 0) pe_int (fun _ _ => rfl)))) pss_nil)
      (pss_cons (ps_set (i := 3) sc_moved_temporal.nd rfl (by first | exact Or.inl rfl | exact Or.inr rfl) (pe_callX G_moved hr (pa_cons (pe_ix ix_tup (pv 0) pe_int (fun _ _ => rfl)) (pa_cons (pv 1) pa_nil))))
      (pss_cons (ps_if (pt_cmpR op_eq (pv 2) pe_str (nomark _)) (pss_one (ps_ret (pe_tup (pa_cons pe_str (pa_cons (pv 3) (pa_cons (pv 0) pa_nil)))))) pss_nil)
      (pss_cons (ps_if (pt_cmpR op_eq (pv 2) pe_str (nomark _)) (pss_one (ps_ret (pe_tup (pa_cons pe_str (pa_cons (pv 3) (pa_cons (pv 0) pa_nil)))))) pss_nil)
      (pss_cons (ps_set (i := 4) sc_moved_temporal.nd rfl (by first | exact Or.inl rfl | exact Or.inr rfl) (pe_callX G_moved hr (pa_cons (pe_ix ix_tup (pv 0) pe_int (fun _ _ => rfl)) (pa_cons (pv 1) pa_nil))))
      (pss_cons (ps_if (PW.pt (pw_or (pt_cmpR op_eq (pv 2) pe_str (nomark _)) (pw_or1 (pt_cmpR op_eq (pv 2) pe_str (nomark _))))) (pss_one (ps_ret (pe_tup (pa_cons pe_str (pa_cons (pv 4) (pa_cons (pe_tup (pa_cons pe_str (pa_cons (pv 3) (pa_cons (pv 0) pa_nil)))) pa_nil)))))) pss_nil)
      (pss_one (ps_ret (pe_tup (pa_cons pe_str (pa_cons (pv 4) (pa_cons (pe_tup (pa_cons pe_str (pa_cons (pv 3) (pa_cons (pv 0) pa_nil)))) pa_nil))))))))))))), ?_⟩
  try dsimp only [cxOf]
  cases f with
  | tt => cases hT
  | ff => cases hT
  | cmp c t u => cases hT
  | un o g =>
    have hd' : g.dp ≤ n := Nat.le_of_succ_le_succ hd
    refine b_asg (Ex.refl H) (by walk_at "ev") fun H1 e1 => ?_
    cases o with
    | not => cases hT
    | next =>
      refine b_yes e1 (by walk_at "ev") (by decide +kernel) fun H2 e2 => ?_
      exact b_ret e2 (d := g.d) (e_ixT (e_var rfl h0) ev_c at1) q
    | ev =>
      refine b_skip e1 (by walk_at "ev") (by decide +kernel) fun H2 e2 => ?_
      refine b_asgD e2 (e_call (ds := [g.d, envD es]) (K27.ea_cons (e_ixT (e_var rfl h0) ev_c at1) (K27.ea_cons (e_var rfl h1) K27.ea_nil)) ⟨g, es, r, rfl, hf, hd', henv, rfl⟩) fun v3 H3 e3 r3 => ?_
      have h03 := h0.mono e3
      refine b_yes (Ex.refl H3) (by walk_at "ev") (by decide +kernel) fun H4 e4 => ?_
      exact b_ret e4 (d := (moved r (.un .ev g)).d) (e_tup (K27.ea_cons (e_str ev_c) (K27.ea_cons (e_var rfl r3) (K27.ea_cons (e_var rfl h03) K27.ea_nil))) (by simp)) fun v H' e => q v H' (e3.trans e)
    | al =>
      refine b_skip e1 (by walk_at "ev") (by decide +kernel) fun H2 e2 => ?_
      refine b_asgD e2 (e_call (ds := [g.d, envD es]) (K27.ea_cons (e_ixT (e_var rfl h0) ev_c at1) (K27.ea_cons (e_var rfl h1) K27.ea_nil)) ⟨g, es, r, rfl, hf, hd', henv, rfl⟩) fun v3 H3 e3 r3 => ?_
      have h03 := h0.mono e3
      refine b_skip (Ex.refl H3) (by walk_at "ev") (by decide +kernel) fun H4 e4 => ?_
      refine b_yes e4 (by walk_at "ev") (by decide +kernel) fun H5 e5 => ?_
      exact b_ret e5 (d := (moved r (.un .al g)).d) (e_tup (K27.ea_cons (e_str ev_c) (K27.ea_cons (e_var rfl r3) (K27.ea_cons (e_var rfl h03) K27.ea_nil))) (by simp)) fun v H' e => q v H' (e3.trans e)
  | bi o g h =>
    have hd' : g.dp ≤ n ∧ h.dp ≤ n := by
      have : max g.dp h.dp + 1 ≤ n + 1 := hd
      omega
    refine b_asg (Ex.refl H) (by walk_at "ev") fun H1 e1 => ?_
    refine b_skip e1 (by walk_at "ev") (by cases o <;> decide +kernel) fun H2 e2 => ?_
    refine b_asgD e2 (e_call (ds := [g.d, envD es]) (K27.ea_cons (e_ixT (e_var rfl h0) ev_c at1) (K27.ea_cons (e_var rfl h1) K27.ea_nil)) ⟨g, es, r, rfl, hf.1, hd'.1, henv, rfl⟩) fun v3 H3 e3 r3 => ?_
    have h03 := h0.mono e3
    refine b_skip (Ex.refl H3) (by walk_at "ev") (by cases o <;> decide +kernel) fun H4 e4 => ?_
    refine b_skip e4 (by walk_at "ev") (by cases o <;> decide +kernel) fun H5 e5 => ?_
    refine b_asgD e5 (e_call (ds := [h.d, envD es]) (K27.ea_cons (e_ixT (e_var rfl h03) ev_c at2) (K27.ea_cons (e_var rfl (h1.mono e3)) K27.ea_nil)) ⟨h, es, r, rfl, hf.2, hd'.2, henv, rfl⟩) fun v6 H6 e6 r6 => ?_
    have h06 := h03.mono e6
    have r36 := r3.mono e6
    cases o with
    | and => cases hT
    | or => cases hT
    | imp => cases hT
    | same => cases hT
    | untl =>
      refine b_yes (Ex.refl H6) (by walk_at "ev") (by decide +kernel) fun H7 e7 => ?_
      exact b_ret e7 (d := (moved r (.bi .untl g h)).d) (e_tup (K27.ea_cons (e_str ev_c) (K27.ea_cons (e_var rfl r6) (K27.ea_cons (e_tup (K27.ea_cons (e_str ev_c) (K27.ea_cons (e_var rfl r36) (K27.ea_cons (e_var rfl h06) K27.ea_nil))) (by simp)) K27.ea_nil))) (by simp)) fun v H' e => q v H' ((e3.trans e6).trans e)
    | unl =>
      refine b_yes (Ex.refl H6) (by walk_at "ev") (by decide +kernel) fun H7 e7 => ?_
      exact b_ret e7 (d := (moved r (.bi .unl g h)).d) (e_tup (K27.ea_cons (e_str ev_c) (K27.ea_cons (e_var rfl r6) (K27.ea_cons (e_tup (K27.ea_cons (e_str ev_c) (K27.ea_cons (e_var rfl r36) (K27.ea_cons (e_var rfl h06) K27.ea_nil))) (by simp)) K27.ea_nil))) (by simp)) fun v H' e => q v H' ((e3.trans e6).trans e)
    | rel =>
      refine b_skip (Ex.refl H6) (by walk_at "ev") (by decide +kernel) fun H7 e7 => ?_
      exact b_ret e7 (d := (moved r (.bi .rel g h)).d) (e_tup (K27.ea_cons (e_str ev_c) (K27.ea_cons (e_var rfl r6) (K27.ea_cons (e_tup (K27.ea_cons (e_str ev_c) (K27.ea_cons (e_var rfl r36) (K27.ea_cons (e_var rfl h06) K27.ea_nil))) (by simp)) K27.ea_nil))) (by simp)) fun v H' e => q v H' ((e3.trans e6).trans e)
    | str =>
      refine b_skip (Ex.refl H6) (by walk_at "ev") (by decide +kernel) fun H7 e7 => ?_
      exact b_ret e7 (d := (moved r (.bi .str g h)).d) (e_tup (K27.ea_cons (e_str ev_c) (K27.ea_cons (e_var rfl r6) (K27.ea_cons (e_tup (K27.ea_cons (e_str ev_c) (K27.ea_cons (e_var rfl r36) (K27.ea_cons (e_var rfl h06) K27.ea_nil))) (by simp)) K27.ea_nil))) (by simp)) fun v H' e => q v H' ((e3.trans e6).trans e)
abbrev s_moved : Stmt := topS 40
abbrev N_moved : List Str := ["formula", "values", "word", "part"]
theorem sc_moved : FnScope N_moved ["formula", "values"] (defScope s_moved) := ⟨rfl, rfl, rfl, by decide +kernel, rfl, by decide +kernel, by decide +kernel⟩
theorem tl_cut (d0 : PyData) (rest : List PyData) : cutD (d0 :: rest) (some 1) none = rest := by
  unfold cutD HT.sIx
  simp
theorem tl_whole (d0 : PyData) (rest : List PyData) : ¬ (HT.sIx (d0 :: rest).length 0 (some 1) = 0 ∧ HT.sIx (d0 :: rest).length (d0 :: rest).length none = (d0 :: rest).length) := by
  unfold HT.sIx
  simp
theorem ok_moved {N : List Str} (C_COMPARISONS_progress : Cst K mg "COMPARISONS_progress" (.tuple (["equal", "below", "upto"].map fun x : String => .str x))) (G_constant : FnAt P w K mg base 1 "constant" ["bit"] (spR K R_constant)) (G_condition_truth : FnAt P w K mg base 6 "condition_truth" ["condition", "values"] (spR K (R_comparison_truth N)))
    (DT : Def K mg "moved_temporal" s_moved_temporal ["formula", "values"]) (D : Def K mg "moved" s_moved ["formula", "values"]) : ∀ n : Nat, FnAt P w K mg base (2 * n + 6) "moved" ["formula", "values"] (spR K (R_moved N n))
  | 0 => FnAt.none D fun vs H Q E h => by
    obtain ⟨ds, d, _, ⟨f, _, _, _, _, h, _⟩, _⟩ := h
    have := dp_pos f
    omega
  | n + 1 => by
    have G_moved := ok_moved C_COMPARISONS_progress G_constant G_condition_truth DT D n
    have G_moved_temporal := ok_moved_temporal G_moved DT
    obtain ⟨aC, h_COMPARISONS_progress, dC⟩ := C_COMPARISONS_progress
    have dC' : ∀ H, Da K H (.ref aC) (.tuple ((["equal", "below", "upto"].map Str.ofString).map PyData.str)) := dC
    show FnAt P w K mg base ((2 * n + 7) + 1) "moved" ["formula", "values"] (spR K (R_moved N (n + 1)))
    refine D.ok sc_moved (fun ds d ⟨f, es, r, h, _⟩ => by rw [h] <;> rfl) fun f0 cdv A outer s H vs Q E ds d hr hv hR q => ?_
    obtain ⟨f, es, r, rfl, hf, hd, henv, rfl⟩ := hR
    obtain ⟨v0, v1, rfl, h0, h1⟩ := hv.i2
    refine ⟨_, (pss_cons (ps_set (i := 2) sc_moved.nd rfl (by first | exact Or.inl rfl | exact Or.inr rfl) (pe_ix ix_tup (pv 0) pe_int (fun _ _ => rfl)))
      (pss_cons (ps_if (PW.pt (pw_or (pt_cmpR op_eq (pv 2) pe_str (nomark _)) (pw_or1 (pt_cmpR op_eq (pv 2) pe_str (nomark _))))) (pss_one (ps_ret (pv 0))) pss_nil)
      (pss_cons (ps_if (pt_cmpR op_in_seq (pv 2) (pe_globR h_COMPARISONS_progress) (by rfl)) (pss_one (ps_ret (pe_callX G_constant hr (pa_cons (pe_callX G_condition_truth hr (pa_cons (pv 0) (pa_cons (pv 1) pa_nil))) pa_nil)))) pss_nil)
      (pss_cons (ps_if (pt_cmpR op_in_seq (pv 2) (pe_tup (pa_cons pe_str (pa_cons pe_str (pa_cons pe_str (pa_cons pe_str (pa_cons pe_str pa_nil)))))) (by rfl)) (pss_one (ps_ret (pe_tup (pa_cons (pv 2) (StX.pa_star (pe_lc (own := [("part", 3)]) (g := gName 3) (tt := tYes) (te := (tCall _ [] E0 (tCons (tVar 3) (tCons (tVar 1) tNil)))) (by rfl) sc_moved.nd (pi_tup (pe_slice sl_tupA (pv 0) (po_some pe_int) po_none)) (blkOk_by (N := N_moved) (own := [("part", 3)]) (sc := defScope s_moved) (by decide +kernel)) (fun _ _ _ _ _ => (pg_name (i := 3) sc_moved.nd rfl (by first | exact Or.inl rfl | exact Or.inr rfl))) (fun _ _ _ _ _ => pts_nil) (fun _ _ _ _ _ => (pe_callX G_moved hr (pa_cons (pv 3) (pa_cons (pv 1) pa_nil))))) pa_nil))))) pss_nil)
      (pss_one (ps_ret (pe_callX G_moved_temporal hr (pa_cons (pv 0) (pa_cons (pv 1) pa_nil))))))))), ?_⟩
    try dsimp only [cxOf]
    cases f with
    | tt =>
      refine b_asg (Ex.refl H) (by walk_at "ev") fun H1 e1 => ?_
      refine b_yes e1 (by walk_at "ev") (by decide +kernel) fun H2 e2 => ?_
      exact b_ret e2 (d := Fm.tt.d) (e_var rfl h0) q
    | ff =>
      refine b_asg (Ex.refl H) (by walk_at "ev") fun H1 e1 => ?_
      refine b_yes e1 (by walk_at "ev") (by decide +kernel) fun H2 e2 => ?_
      exact b_ret e2 (d := Fm.ff.d) (e_var rfl h0) q
    | cmp c t u =>
      refine b_asg (Ex.refl H) (by walk_at "ev") fun H1 e1 => ?_
      refine b_skip e1 (by walk_at "ev") (by cases c <;> decide +kernel) fun H2 e2 => ?_
      refine b_yes e2 (et_test (ev_inC (by walk_at "ev") dC')) (by cases c <;> decide +kernel) fun H3 e3 => ?_
      exact b_ret e3 (e_call (ds := [.bool (c.ap (t.val r) (u.val r))]) (K27.ea_cons (e_call (ds := [(Fm.cmp c t u).d, envD es]) (K27.ea_cons (e_var rfl h0) (K27.ea_cons (e_var rfl h1) K27.ea_nil)) ⟨c, t, u, es, r, rfl, hf, henv, rfl⟩) K27.ea_nil) ⟨_, rfl, rfl⟩) q
    | un o g =>
      have hd' : g.dp ≤ n := Nat.le_of_succ_le_succ hd
      refine b_asg (Ex.refl H) (by walk_at "ev") fun H1 e1 => ?_
      refine b_skip e1 (by walk_at "ev") (by cases o <;> decide +kernel) fun H2 e2 => ?_
      refine b_skip e2 (et_test (ev_inC (by walk_at "ev") dC')) (by cases o <;> decide +kernel) fun H3 e3 => ?_
      cases hT : isT (.un o g) with
      | false =>
        obtain rfl : o = .not := by cases o <;> first | rfl | cases hT
        refine b_yes e3 (by walk_at "ev") (by decide +kernel) fun H4 e4 => ?_
        have t1 : ∀ H', Ex H H' → K27.E K (tSl (rSlA K) (tVar 0) (tPart (tC (.int 1))) tNoPart) [some v0, some v1, some (.str Un.not.w), none] H' (.tuple [g.d]) := fun H' e => e_is (e_slT (e_var rfl (h0.mono e)) (eo_some ev_c) eo_none (tl_whole (.str Un.not.w) [g.d])) (by rw [tl_cut])
        refine b_ret e4 (d := (moved r (.un .not g)).d) (e_tup (ds := [.str "not", (moved r g).d]) (K27.ea_cons (e_str (ev_var rfl)) (ea_star (ds := [(moved r g).d]) (EL.e ((l_lcT (fun _ => true) (fun i => [(moved r g).d].getD i .none) (t1 H (Ex.refl H)) (by simp) ?_ (fun x => rfl) (fun i v d H5 e5 hd5 r5 => evt_yes) (fun i v d H5 e5 hd5 r5 _ => ?_)).is ?_)) K27.ea_nil)) (by simp)) q
        · intro i
          rcases i with _ | i
          · exact (moved r g).noL
          · rfl
        · rcases i with _ | i
          · simp at hd5
            subst hd5
            exact e_call (ds := [g.d, envD es]) (K27.ea_cons (e_var rfl r5) (K27.ea_cons (e_var rfl (h1.mono e5)) K27.ea_nil)) ⟨g, es, r, rfl, hf, hd', henv, rfl⟩
          · simp at hd5
        · rw [giv_all] <;> rfl
      | true =>
        refine b_skip e3 (by walk_at "ev") (by cases o <;> first | decide +kernel | cases hT) fun H4 e4 => ?_
        exact b_ret e4 (e_call (ds := [(Fm.un o g).d, envD es]) (K27.ea_cons (e_var rfl h0) (K27.ea_cons (e_var rfl h1) K27.ea_nil)) ⟨.un o g, es, r, rfl, hf, hd, henv, hT, rfl⟩) q
    | bi o g h =>
      have hd' : g.dp ≤ n ∧ h.dp ≤ n := by
        have : max g.dp h.dp + 1 ≤ n + 1 := hd
        omega
      refine b_asg (Ex.refl H) (by walk_at "ev") fun H1 e1 => ?_
      refine b_skip e1 (by walk_at "ev") (by cases o <;> decide +kernel) fun H2 e2 => ?_
      refine b_skip e2 (et_test (ev_inC (by walk_at "ev") dC')) (by cases o <;> decide +kernel) fun H3 e3 => ?_
      cases hT : isT (.bi o g h) with
      | false =>
        have em : moved r (.bi o g h) = .bi o (moved r g) (moved r h) := by cases o <;> first | rfl | cases hT
        refine b_yes e3 (by walk_at "ev") (by cases o <;> first | decide +kernel | cases hT) fun H4 e4 => ?_
        have t1 : ∀ H', Ex H H' → K27.E K (tSl (rSlA K) (tVar 0) (tPart (tC (.int 1))) tNoPart) [some v0, some v1, some (.str o.w), none] H' (.tuple [g.d, h.d]) := fun H' e => e_is (e_slT (e_var rfl (h0.mono e)) (eo_some ev_c) eo_none (tl_whole (.str o.w) [g.d, h.d])) (by rw [tl_cut])
        rw [em] at q
        refine b_ret e4 (d := (Fm.bi o (moved r g) (moved r h)).d) (e_tup (ds := [.str o.w, (moved r g).d, (moved r h).d]) (K27.ea_cons (e_str (ev_var rfl)) (ea_star (ds := [(moved r g).d, (moved r h).d]) (EL.e ((l_lcT (fun _ => true) (fun i => [(moved r g).d, (moved r h).d].getD i .none) (t1 H (Ex.refl H)) (by simp) ?_ (fun x => rfl) (fun i v d H5 e5 hd5 r5 => evt_yes) (fun i v d H5 e5 hd5 r5 _ => ?_)).is ?_)) K27.ea_nil)) (by simp)) q
        · intro i
          rcases i with _ | _ | i
          · exact (moved r g).noL
          · exact (moved r h).noL
          · rfl
        · rcases i with _ | _ | i
          · simp at hd5
            subst hd5
            exact e_call (ds := [g.d, envD es]) (K27.ea_cons (e_var rfl r5) (K27.ea_cons (e_var rfl (h1.mono e5)) K27.ea_nil)) ⟨g, es, r, rfl, hf.1, hd'.1, henv, rfl⟩
          · simp at hd5
            subst hd5
            exact e_call (ds := [h.d, envD es]) (K27.ea_cons (e_var rfl r5) (K27.ea_cons (e_var rfl (h1.mono e5)) K27.ea_nil)) ⟨h, es, r, rfl, hf.2, hd'.2, henv, rfl⟩
          · simp at hd5
        · rw [giv_all] <;> rfl
      | true =>
        refine b_skip e3 (by walk_at "ev") (by cases o <;> first | decide +kernel | cases hT) fun H4 e4 => ?_
        exact b_ret e4 (e_call (ds := [(Fm.bi o g h).d, envD es]) (K27.ea_cons (e_var rfl h0) (K27.ea_cons (e_var rfl h1) K27.ea_nil)) ⟨.bi o g h, es, r, rfl, hf, hd, henv, hT, rfl⟩) q
end
end K27

/-! K27, the layer, more: zip comprehensions, loops over ranges, rows of bools. -/
namespace K27
open PySem PySem.Spec PyProof.Rows L2 Evl
section
variable {K : PySem.W.Frag} {σ : L2.St} {H H0 H' : Hp} {ta tb te tx : TE} {t u : TT} {v : V} {d : PyData} {ds es : List PyData} {D : Ends} {tu tw tz : TS}
theorem b_drop (e0 : Ex H0 H) (h : Ev te σ H0 v) (q : ∀ H1, Ex H0 H1 → tz D σ H1) : tSeq (tDrop te) tz D σ H := h H e0 _ fun H1 e1 => q H1 (e0.trans e1)
theorem b_asg1 {k : Nat} (e0 : Ex H0 H) (h : Ev te σ H0 v) (q : ∀ H1, Ex H0 H1 → D.nx (σ.set k (some v)) H1) : tAsg te (gName k) D σ H := h H e0 _ fun H1 e1 => q H1 (e0.trans e1)
theorem b_asgD1 {k : Nat} (e0 : Ex H0 H) (h : E K te σ H0 d) (q : ∀ v H1, Ex H0 H1 → Da K H1 v d → D.nx (σ.set k (some v)) H1) : tAsg te (gName k) D σ H := h H e0 _ fun v H1 e1 r => q v H1 (e0.trans e1) r
theorem CwD.ex {f : Nat → Bool} {F : Nat → PyData} {Dl : Addr} {i : Nat} {H2 : Hp} (h : CwD K H f F Dl i H') (e : Ex H' H2) : CwD K H f F Dl i H2 := by
  obtain ⟨h1, h2, xs, h3, h4⟩ := h
  exact ⟨h1, h2.trans e, xs, e _ _ h3, h4.mono e⟩
/-- over zip of two lists of one length -/
theorem l_lcZ {ta : TA} {k j : Nat} {vs : List Nat} (f : Nat → Bool) (F : Nat → PyData) (h : EA K ta σ H [.list ds, .list es]) (hl : ds.length = es.length) (hz : ds.length ≤ 40000) (hF : ∀ i, noL (F i) = true) (hw : ∀ x y, wipe (((wipe σ vs).set k (some x)).set j (some y)) vs = wipe σ vs)
    (ht : ∀ (i : Nat) (v w : V) (d e : PyData) H1, Ex H H1 → ds[i]? = some d → es[i]? = some e → Da K H1 v d → Da K H1 w e → EvT t (((wipe σ vs).set k (some v)).set j (some w)) H1 (f i)) (he : ∀ (i : Nat) (v w : V) (d e : PyData) H1, Ex H H1 → ds[i]? = some d → es[i]? = some e → Da K H1 v d → Da K H1 w e → f i = true → E K te (((wipe σ vs).set k (some v)).set j (some w)) H1 (F i)) :
    EL K (tLc (iZip K ta) (gTup K 2 (gCons (gName k) (gCons (gName j) gNil))) t te vs) σ H (giv ds.length f F) := fun H0 e Q q => h H0 e _ fun us H1 e1 r => by
  obtain ⟨v, w, rfl, r1, r2⟩ := r.i2
  obtain ⟨a, xs, rfl, ha, hx⟩ := r1.lst_inv
  obtain ⟨b, ys, rfl, hb, hy⟩ := r2.lst_inv
  have l1 := hx.length
  have l2 := hy.length
  rw [← l1] at q
  refine ⟨a, b, xs, ys, rfl, sq_of ha, sq_of hb, fun Dl hD => lc_it (walk_zip (n := xs.length) (xs := xs) (ys := ys) (by omega)) (CwD K H1 f F Dl) (CwD.nil hD) (fun i H' _ p => ⟨sq_of (p.2.1 _ _ ha), sq_of (p.2.1 _ _ hb)⟩) (fun i z H2 H3 hi p y => ?_) (fun H' p => ?_)⟩
  · obtain ⟨T, x, y, rfl, hT, rfl, gx, gy⟩ := y
    have e3 : Ex H2 (upd H2 T (.tup [x, y])) := Ex.new hT
    have p3 := p.ex e3
    obtain ⟨d, hd, rd⟩ := hx.get gx
    obtain ⟨c, hc, rc⟩ := hy.get gy
    refine ⟨T, [x, y], rfl, st_of upd_same, rfl, x, [y], rfl, y, [], rfl, rfl, hw x y, ?_⟩
    exact cwd_turn p3 (by omega) hF (ht i x y d c _ ((e.trans e1).trans p3.2.1) hd hc (rd.mono p3.2.1) (rc.mono p3.2.1)) (fun hf => he i x y d c _ ((e.trans e1).trans p3.2.1) hd hc (rd.mono p3.2.1) (rc.mono p3.2.1) hf)
  · obtain ⟨p1, p2, zs, p3, p4⟩ := p
    exact q Dl zs H' (fresh_back e1 p1) (e1.trans p2) p3 p4
/-- for i in range(a, -1, -1) -/
theorem b_forDn1 {ta : TA} {j n : Nat} (e0 : Ex H0 H) (h : EvA ta σ H0 [.int ((n : Int) - 1), .int (-1), .int (-1)]) (hn : n ≤ 100000) (Pv : Nat → L2.St → Hp → Prop) (h0 : ∀ H1, Ex H H1 → Pv 0 σ H1)
    (hs : ∀ (i p : Nat) σ' H', i < n → p + 1 + i = n → Pv i σ' H' → tu { D with nx := Pv (i + 1), ct := Pv (i + 1), bk := D.nx } (σ'.set j (some (.int (p : Int)))) H') (hd : ∀ σ' H', Pv n σ' H' → D.nx σ' H') : tFor (iRng3 ta) (gName j) tu D σ H :=
  h H e0 _ fun H1 e => by
    have hc : RgC ((n : Int) - 1) (-1) (-1) n := by
      have z := RgC.neg (i := (n : Int) - 1) (j := -1) (by omega) (by omega) (by omega) (by omega)
      have en : ((n : Int) - 1 - -1).toNat = n := by omega
      rw [en] at z
      exact z
    refine ⟨_, _, _, n, rfl, hc, for_rangeC Pv (h0 H1 e) (fun i σ' H' hi p => ?_) hd⟩
    have e1 : ((n : Int) - 1 + (i : Nat) * (-1) : Int) = ((n - 1 - i : Nat) : Int) := by omega
    show tu _ (σ'.set j (some (.int ((n : Int) - 1 + (i : Nat) * (-1))))) H'
    rw [e1]
    exact hs i (n - 1 - i) σ' H' hi (by omega) p
end
/-! ### rows of bools -/
def blD (n : Nat) (F : Nat → Bool) : List PyData := ((List.range n).map F).map PyData.bool
def vb (n : Nat) (F : Nat → Bool) : List V := ((List.range n).map F).map V.bl
theorem blD_len (n : Nat) (F : Nat → Bool) : (blD n F).length = n := by unfold blD; simp
theorem vb_len (n : Nat) (F : Nat → Bool) : (vb n F).length = n := by unfold vb; simp
theorem blD_at {n : Nat} {F : Nat → Bool} {p : Nat} (h : p < n) : (blD n F)[p]? = some (.bool (F p)) := by unfold blD; simp [h]
theorem blD_get {n : Nat} {F : Nat → Bool} {p : Nat} {d : PyData} (h : (blD n F)[p]? = some d) : p < n ∧ d = .bool (F p) := by
  have hl := (List.getElem?_eq_some_iff.mp h).1
  rw [blD_len] at hl
  rw [blD_at hl] at h
  exact ⟨hl, (Option.some.inj h).symm⟩
theorem vb_at {n : Nat} {F : Nat → Bool} {p : Nat} (h : p < n) : (vb n F)[p]? = some (.bl (F p)) := by unfold vb; simp [h]
theorem vb_atI {n : Nat} {F : Nat → Bool} {p : Nat} (h : p < n) : atI (vb n F) (p : Int) = some (.bl (F p)) := atI_nat (vb_at h)
theorem vb_congr {n : Nat} {F G : Nat → Bool} (h : ∀ p, p < n → F p = G p) : vb n F = vb n G := by
  unfold vb
  congr 1
  exact List.map_congr_left fun p hp => h p (List.mem_range.mp hp)
theorem blD_congr {n : Nat} {F G : Nat → Bool} (h : ∀ p, p < n → F p = G p) : blD n F = blD n G := by
  unfold blD
  congr 1
  exact List.map_congr_left fun p hp => h p (List.mem_range.mp hp)
theorem vb_set {n : Nat} {F : Nat → Bool} {p : Nat} {c : Bool} : (vb n F).set p (.bl c) = vb n (fun q => if q = p then c else F q) := by
  apply List.ext_getElem?
  intro i
  rw [List.getElem?_set]
  by_cases hi : i < n
  · have r : (vb n fun q => if q = p then c else F q)[i]? = some (.bl (if i = p then c else F i)) := vb_at hi
    rw [r]
    by_cases e : p = i
    · subst e
      rw [if_pos rfl, if_pos (by rw [vb_len]; exact hi), if_pos rfl]
    · rw [if_neg e, vb_at hi, if_neg (fun z => e z.symm)]
  · have h1 : (vb n fun q => if q = p then c else F q)[i]? = none := List.getElem?_eq_none (by rw [vb_len]; omega)
    have h2 : (vb n F)[i]? = none := List.getElem?_eq_none (by rw [vb_len]; omega)
    rw [h1, h2]
    by_cases e : p = i
    · rw [if_pos e, if_neg (by rw [vb_len]; omega)]
    · rw [if_neg e]
theorem DaAll.vb {K : PySem.W.Frag} {H : Hp} {vs : List V} {n : Nat} {F : Nat → Bool} (h : DaAll K H vs (blD n F)) : vs = K27.vb n F := h.bools
theorem da_vb {K : PySem.W.Frag} {H : Hp} {n : Nat} {F : Nat → Bool} : DaAll K H (vb n F) (blD n F) := DaAll.ofBools _
theorem giv_bl (n : Nat) (F : Nat → Bool) : giv n (fun _ => true) (fun i => .bool (F i)) = blD n F := by
  rw [giv_all]
  unfold blD
  rw [List.map_map] <;> rfl
theorem atI_bl {n : Nat} {F : Nat → Bool} {p : Nat} (h : p < n) : atI (blD n F) (p : Int) = some (.bool (F p)) := atI_nat (blD_at h)
end K27

/-! K27: lassoproof/lassos/meaning.py: spread, row_truths. -/
namespace K27
open PySem PySem.Spec PyProof.Rows L2 Evl
local macro_rules | `(tactic| walk_at "ev") => `(tactic| first
  | exact ev_c
  | exact ev_var rfl
  | (refine' et_test ?h; (case h => walk_at "ev"))
  | (refine' et_B ?h; (case h => walk_at "ev"))
  | (refine' et_not ?h; (case h => walk_at "ev"))
  | (refine' et_and ?a (fun _ => ?b); (case a => walk_at "ev"); (case b => walk_at "ev"))
  | (refine' et_or ?a (fun _ => ?b); (case a => walk_at "ev"); (case b => walk_at "ev"))
  | (refine' ev_op ?a ?b (rv_eq ?c); (case a => walk_at "ev"); (case b => walk_at "ev"); (case c => rfl))
  | (refine' ev_op ?a ?b rv_I0; (case a => walk_at "ev"); (case b => walk_at "ev"))
  | (refine' ev_inU ?a ?b ?c ?d; (case a => walk_at "ev"); (case b => (refine' eu_tup ?x ?y; (case x => walk_at "ev"); (case y => decide))); (case c => rfl); (case d => rfl))
  | (refine' ev_str (e_ixT ?a ?b ?c); (case a => walk_at "ed"); (case b => walk_at "ev"); (case c => first | exact at0 | exact at1 | exact at2))
  | (refine' ev_int (e_ixT ?a ?b ?c); (case a => walk_at "ed"); (case b => walk_at "ev"); (case c => first | exact at0 | exact at1 | exact at2))
  | exact Evl.ea_nil
  | (refine' Evl.ea_cons ?a ?b; (case a => walk_at "ev"); (case b => walk_at "ev")))
local macro_rules | `(tactic| walk_at "ed") => `(tactic| first
  | exact e_var rfl (by assumption)
  | exact e_var rfl (by constructor)
  | exact K27.ea_nil
  | (refine' K27.ea_cons ?a ?b; (case a => walk_at "ed"); (case b => walk_at "ed"))
  | (refine' e_tup ?a ?b; (case a => walk_at "ed"); (case b => (simp only [List.length_cons, List.length_nil, List.length_append]; omega)))
  | (refine' e_ixT ?a ?b ?c; (case a => walk_at "ed"); (case b => walk_at "ev"); (case c => first | exact at0 | exact at1 | exact at2))
  | (refine' e_ev ?a ?b; (case a => walk_at "ev"); (case b => first | exact .str _ | exact .int _ | exact .bl _ | assumption)))
def Pw (x : Str) (a b : Bool) : Bool := if x = "eventually" then true else if x = "always" then a else if x = "until" ∨ x = "unless" then a else b
def Qw (x : Str) (a b : Bool) : Bool := if x = "eventually" then a else if x = "always" then false else if x = "until" ∨ x = "unless" then b else a && b
theorem stp_pq (x : Str) (a b c : Bool) : stp x a b c = (Qw x a b || (Pw x a b && c)) := by
  unfold stp Pw Qw
  split
  · simp
  split
  · simp
  split
  · rfl
  · cases a <;> cases b <;> cases c <;> rfl
def grWs : List Str := ["always", "release", "unless"].map Str.ofString
def gr (x : Str) : Bool := inV (.str x) (grWs.map V.str)
/-- the truth along a row spread by x -/
def spd (x : Str) (n b : Nat) (F G : Nat → Bool) (k p : Nat) : Bool := dec (nx n b) (fun q => Pw x (F q) (G q)) (fun q => Qw x (F q) (G q)) (gr x) k p
theorem spd_zero {x : Str} {n b : Nat} {F G : Nat → Bool} {p : Nat} : spd x n b F G 0 p = gr x := rfl
theorem spd_succ {x : Str} {n b : Nat} {F G : Nat → Bool} {k p : Nat} : spd x n b F G (k + 1) p = stp x (F p) (G p) (spd x n b F G k (nx n b p)) := by
  rw [stp_pq]
  show (if Qw x (F p) (G p) then true else if Pw x (F p) (G p) then spd x n b F G k (nx n b p) else false) = _
  cases Qw x (F p) (G p) <;> cases Pw x (F p) (G p) <;> rfl
/-- after j passes -/
def psd (x : Str) (n b : Nat) (F G : Nat → Bool) (j p : Nat) : Bool := if j = 0 then gr x else spd x n b F G ((n - p) + (if j = 1 then 0 else n - b)) p
theorem psd_last {x : Str} {n b : Nat} {F G : Nat → Bool} {j p : Nat} (hj : j < 2) (hp : p + 1 = n) (hb : b < n) : psd x n b F G (j + 1) p = stp x (F p) (G p) (psd x n b F G j b) := by
  have e : nx n b p = b := by unfold nx; rw [if_neg (by omega)]
  unfold psd
  rw [if_neg (by omega)]
  rcases (by omega : j = 0 ∨ j = 1) with rfl | rfl
  · have e2 : (n - p) + (if 0 + 1 = 1 then 0 else n - b) = 0 + 1 := by simp; omega
    rw [e2, spd_succ] <;> rfl
  · have e2 : (n - p) + (if 1 + 1 = 1 then 0 else n - b) = (n - b) + 1 := by simp; omega
    rw [e2, spd_succ, e, if_neg (by omega)] <;> rfl
theorem psd_step {x : Str} {n b : Nat} {F G : Nat → Bool} {j p : Nat} (hj : j < 2) (hp : p + 1 < n) : psd x n b F G (j + 1) p = stp x (F p) (G p) (psd x n b F G (j + 1) (p + 1)) := by
  have e : nx n b p = p + 1 := by unfold nx; rw [if_pos hp]
  rcases (by omega : j = 0 ∨ j = 1) with rfl | rfl
  · show spd x n b F G ((n - p) + 0) p = stp x (F p) (G p) (spd x n b F G ((n - (p + 1)) + 0) (p + 1))
    rw [Nat.add_zero, Nat.add_zero, show n - p = (n - (p + 1)) + 1 by omega, spd_succ, e]
  · show spd x n b F G ((n - p) + (n - b)) p = stp x (F p) (G p) (spd x n b F G ((n - (p + 1)) + (n - b)) (p + 1))
    rw [show (n - p) + (n - b) = ((n - (p + 1)) + (n - b)) + 1 by omega, spd_succ, e]
theorem psd_two {x : Str} {n b : Nat} {F G : Nat → Bool} {p : Nat} (hb : b < n) (hp : p < n) : psd x n b F G 2 p = spd x n b F G n p := by
  unfold psd
  rw [if_neg (by omega), if_neg (by omega)]
  exact dec_cov (cov_twice hb hp) (cov_n hb hp)
section
variable {P : Program} {w : World} {K : PySem.W.Frag} {mg : Str → Option Value} {base : Heap}
abbrev s_spread : Stmt := topS 32
abbrev N_spread : List Str := ["word", "first", "second", "back", "last", "truths", "_", "place", "following"]
theorem sc_spread : FnScope N_spread ["word", "first", "second", "back"] (defScope s_spread) := ⟨rfl, rfl, rfl, by decide +kernel, rfl, by decide +kernel, by decide +kernel⟩
def R_spread : List PyData → List PyData → Prop := fun ds es => ∃ (x : Str) (n b : Nat) (F G : Nat → Bool), ds = [.str x, .list (blD n F), .list (blD n G), .int (b : Nat)] ∧ b < n ∧ n ≤ 1000 ∧ es = blD n (spd x n b F G n)
theorem ok_spread (C_GREATEST : Cst K mg "GREATEST" (.tuple (grWs.map PyData.str))) (Z_len : mg "len" = none) (Z_range : mg "range" = none) (G_step_truth : FnAt P w K mg base 1 "step_truth" ["word", "first", "second", "following"] (spR K R_step_truth)) (D : Def K mg "spread" s_spread ["word", "first", "second", "back"]) :
    FnAt P w K mg base 2 "spread" ["word", "first", "second", "back"] (spN K R_spread) := by
  obtain ⟨aG, h_GREATEST, dG⟩ := C_GREATEST
  refine D.okN sc_spread (fun ds d ⟨x, n, b, F, G, h, _⟩ => by rw [h] <;> rfl) fun f0 cdv A outer s H vs Q E ds es hr hv hR q => ?_
  obtain ⟨x, n, b, F, G, rfl, hb, hn, rfl⟩ := hR
  obtain ⟨v0, v1, v2, v3, rfl, h0, h1, h2, h3⟩ := hv.i4
  obtain rfl := h0.str_inv
  obtain rfl := h3.int_inv
  obtain ⟨a1, xs, rfl, ha1, hx1⟩ := h1.lst_inv
  obtain rfl := hx1.vb
  obtain ⟨a2, ys, rfl, ha2, hx2⟩ := h2.lst_inv
  obtain rfl := hx2.vb
  refine ⟨_, (pss_cons (ps_set (i := 4) sc_spread.nd rfl (by first | exact Or.inl rfl | exact Or.inr rfl) (pe_op op_sub (pe_callB call_lenS (by rfl) Z_len PySem.boot_len (pa_cons (pv 1) pa_nil)) pe_int))
      (pss_cons (ps_setLc (i := 5) (own := [("_", 6)]) (g := gName 6) (tt := tYes) (te := (tOp (rIn K false) (tVar 0) (tC _)))  rfl sc_spread.nd rfl rfl (sw_true rfl rfl rfl (by decide +kernel)) (pi_list (pv 1)) (blkOk_by (N := N_spread) (own := [("_", 6)]) (sc := defScope s_spread) (by decide +kernel)) (fun _ _ _ _ _ => (pg_name (i := 6) sc_spread.nd rfl (by first | exact Or.inl rfl | exact Or.inr rfl))) (fun _ _ _ _ _ => pts_nil) (fun _ _ _ _ _ => (pe_cmpR op_in_seq (pv 0) (pe_globR h_GREATEST) (by rfl))))
      (pss_cons (ps_for PassesOwn.never rfl (pi_range1 (by rfl) Z_range (pa_cons pe_int pa_nil)) (pg_name (i := 6) sc_spread.nd rfl (by first | exact Or.inl rfl | exact Or.inr rfl)) (pss_one (ps_for PassesOwn.never rfl (pi_range3 (by rfl) Z_range (pa_cons (pv 4) (pa_cons (pe_un un_neg pe_int) (pa_cons (pe_un un_neg pe_int) pa_nil)))) (pg_name (i := 7) sc_spread.nd rfl (by first | exact Or.inl rfl | exact Or.inr rfl)) (pss_cons (ps_set (i := 8) sc_spread.nd rfl (by first | exact Or.inl rfl | exact Or.inr rfl) (pe_ix ix_list (pv 5) (pv 3) (fun _ _ => rfl)))
      (pss_cons (ps_if (pt_cmpR op_lt (pv 7) (pv 4) (nomark _)) (pss_one (ps_set (i := 8) sc_spread.nd rfl (by first | exact Or.inl rfl | exact Or.inr rfl) (pe_ix ix_list (pv 5) (pe_op op_add (pv 7) pe_int) (fun _ _ => rfl)))) pss_nil)
      (pss_one (ps_asg (pe_callX G_step_truth hr (pa_cons (pv 0) (pa_cons (pe_ix ix_list (pv 1) (pv 7) (fun _ _ => rfl)) (pa_cons (pe_ix ix_list (pv 2) (pv 7) (fun _ _ => rfl)) (pa_cons (pv 8) pa_nil))))) (pg_sub (pv 5) (pv 7) set_list))))))))
      (pss_one (ps_ret (pv 5)))))), ?_⟩
  try dsimp only [cxOf]
  refine b_asg (v := .int ((n : Int) - 1)) (Ex.refl H) (ev_is (ev_op (ev_lenD (.inl (e_var rfl h1))) ev_c rv_I0) (by rw [blD_len])) fun H1 e1 => ?_
  refine b_asgL e1 ((l_lcL (fun _ => true) (fun _ => .bool (gr x)) (e_var rfl h1) (by rw [blD_len]; omega) (fun _ => rfl) (fun _ => rfl) (fun i v d H1 e1 hd r => evt_yes) (fun i v d H1 e1 hd r _ => e_bl (ev_inC (ev_var rfl) dG))).is (es := blD n fun _ => gr x) (by rw [blD_len, giv_bl])) fun l xs0 H2 hl e2 hl2 r2 => ?_
  obtain rfl := r2.vb
  have hlf : H l = none := fresh_back e1 hl
  show tSeq _ _ _ [some (.str x), some (.ref a1), some (.ref a2), some (.int (b : Nat)), some (.int ((n : Int) - 1)), some (.ref l), none, none, none] H2
  refine q_forR1 (n := 2) (Evl.ea_cons ev_c Evl.ea_nil) (by omega) (fun j σ' H' => (∃ o1 o2 o3, σ' = [some (.str x), some (.ref a1), some (.ref a2), some (.int (b : Nat)), some (.int ((n : Int) - 1)), some (.ref l), o1, o2, o3]) ∧ Ex H H' ∧ H' l = some (.lst (vb n (psd x n b F G j)))) (fun H3 e3 => ⟨⟨none, none, none, rfl⟩, e2.trans e3, e3 _ _ hl2⟩) ?_ ?_
  · rintro j σ' H3 hj ⟨⟨o1, o2, o3, rfl⟩, e3, hl3⟩
    have hj' : j < 2 := by omega
    refine b_forDn1 (n := n) (Ex.refl H3) (Evl.ea_cons (ev_var rfl) (Evl.ea_cons (ev_neg ev_c) (Evl.ea_cons (ev_neg ev_c) Evl.ea_nil))) (by omega) (fun i σ' H' => (∃ o1 o2 o3, σ' = [some (.str x), some (.ref a1), some (.ref a2), some (.int (b : Nat)), some (.int ((n : Int) - 1)), some (.ref l), o1, o2, o3]) ∧ Ex H H' ∧ H' l = some (.lst (vb n fun p => if n ≤ p + i then psd x n b F G (j + 1) p else psd x n b F G j p))) (fun H4 e4 => ⟨⟨_, o2, o3, rfl⟩, e3.trans e4, ?_⟩) ?_ ?_
    · rw [e4 _ _ hl3]
      congr 2
      exact vb_congr fun p hp => by rw [if_neg (by omega)]
    · rintro i p σ' H4 hi hpi ⟨⟨o1, o2, o3, rfl⟩, e4, hl4⟩
      show tSeq _ _ _ [some (.str x), some (.ref a1), some (.ref a2), some (.int (b : Nat)), some (.int ((n : Int) - 1)), some (.ref l), o1, some (.int (p : Nat)), o3] H4
      -- following = truths[back]
      refine b_asg (Ex.refl H4) (ev_op (ev_var rfl) (ev_var rfl) (rv_ixL (sq_of hl4) (vb_atI hb))) fun H5 e5 => ?_
      -- the truth at the place after p, as it stands
      have key : ∀ H6, Ex H4 H6 → ∀ c : Bool, psd x n b F G (j + 1) p = stp x (F p) (G p) c → tAsg (tCall (spR K R_step_truth) [] E0 (tCons (tVar 0) (tCons (tOp (rIxL K) (tVar 1) (tVar 7)) (tCons (tOp (rIxL K) (tVar 2) (tVar 7)) (tCons (tVar 8) tNil))))) (gSub (tVar 5) (tVar 7) rSetL) { nx := fun σ' H' => (∃ o1 o2 o3, σ' = [some (.str x), some (.ref a1), some (.ref a2), some (.int (b : Nat)), some (.int ((n : Int) - 1)), some (.ref l), o1, o2, o3]) ∧ Ex H H' ∧ H' l = some (.lst (vb n fun p => if n ≤ p + (i + 1) then psd x n b F G (j + 1) p else psd x n b F G j p)), rt := Q } [some (.str x), some (.ref a1), some (.ref a2), some (.int (b : Nat)), some (.int ((n : Int) - 1)), some (.ref l), o1, some (.int (p : Nat)), some (.bl c)] H6 := fun H6 e6 c hc => by
        have hp : p < n := by omega
        refine s_setL (l := l) (j := p) (v := .bl (psd x n b F G (j + 1) p)) (e6 _ _ hl4) (ev_bl (e_call (ds := [.str x, .bool (F p), .bool (G p), .bool c]) (K27.ea_cons (e_var rfl (.str x)) (K27.ea_cons (e_ixL (e_var rfl (h1.mono (e4.trans e6))) (ev_var rfl) (atI_bl hp)) (K27.ea_cons (e_ixL (e_var rfl (h2.mono (e4.trans e6))) (ev_var rfl) (atI_bl hp)) (K27.ea_cons (e_var rfl (.bl c)) K27.ea_nil)))) ⟨x, F p, G p, c, rfl, by rw [hc]⟩)) (ev_var rfl) (ev_var rfl) (by rw [vb_len]; exact hp) fun H7 e7 => ?_
        refine ⟨⟨_, _, _, rfl⟩, Ex.mut ((e4.trans e6).trans e7) hlf, ?_⟩
        rw [upd_same, vb_set]
        congr 2
        exact vb_congr fun p' hp' => by
          by_cases ep : p' = p
          · subst ep
            rw [if_pos rfl, if_pos (by omega)]
          · rw [if_neg ep]
            by_cases h8 : n ≤ p' + i
            · rw [if_pos h8, if_pos (by omega)]
            · rw [if_neg h8, if_neg (by omega)]
      cases i with
      | zero =>
        refine b_skip (Ex.refl H5) (et_test (ev_op (ev_var rfl) (ev_var rfl) rv_I0)) (by simp; omega) fun H6 e6 => ?_
        refine key H6 (e5.trans e6) _ ?_
        rw [psd_last hj' (by omega) hb, if_neg (by omega)]
      | succ i =>
        refine b_yes (Ex.refl H5) (et_test (ev_op (ev_var rfl) (ev_var rfl) rv_I0)) (by simp; omega) fun H6 e6 => ?_
        have hp1 : p + 1 < n := by omega
        refine b_asg1 (v := .bl (psd x n b F G (j + 1) (p + 1))) (Ex.refl H6) (ev_op (ev_var rfl) (ev_op (ev_var rfl) ev_c rv_I0) (rv_ixL (sq_of ((e5.trans e6) _ _ hl4)) ?_)) fun H7 e7 => ?_
        · have z := vb_atI (F := fun p => if n ≤ p + (i + 1) then psd x n b F G (j + 1) p else psd x n b F G j p) hp1
          rw [if_pos (by omega)] at z
          exact z
        · exact key H7 ((e5.trans e6).trans e7) _ (psd_step hj' hp1)
    · rintro σ' H4 ⟨⟨o1, o2, o3, rfl⟩, e4, hl4⟩
      refine ⟨⟨_, _, _, rfl⟩, e4, ?_⟩
      rw [hl4]
      congr 2
      exact vb_congr fun p hp => by rw [if_pos (by omega)]
  · rintro σ' H3 ⟨⟨o1, o2, o3, rfl⟩, e3, hl3⟩
    refine ⟨_, rfl, q l _ H3 hlf e3 hl3 ?_⟩
    have e2 : (vb n (psd x n b F G (Int.toNat 2))) = vb n (spd x n b F G n) := vb_congr fun p hp => psd_two hb hp
    rw [e2]
    exact da_vb
abbrev s_row_truths : Stmt := topS 34
abbrev N_row_truths : List Str := ["word", "first", "second", "back", "a", "b"]
theorem sc_row_truths : FnScope N_row_truths ["word", "first", "second", "back"] (defScope s_row_truths) := ⟨rfl, rfl, rfl, by decide +kernel, rfl, by decide +kernel, by decide +kernel⟩
/-- a row's truth along the run from its parts' -/
def rwt (x : Str) (n b : Nat) (F G : Nat → Bool) (p : Nat) : Bool := if x = "next" then F (nx n b p) else if inV (.str x) [.str "not", .str "and", .str "or", .str "implies", .str "same"] then plt x (F p) (G p) else spd x n b F G n p
def R_row_truths : List PyData → List PyData → Prop := fun ds es => ∃ (x : Str) (n b : Nat) (F G : Nat → Bool), ds = [.str x, .list (blD n F), .list (blD n G), .int (b : Nat)] ∧ b < n ∧ n ≤ 1000 ∧ es = blD n (rwt x n b F G)
theorem cut_nx {n b : Nat} {F : Nat → Bool} (hb : b < n) : cutD (blD n F) (some 1) none ++ [.bool (F b)] = blD n (fun p => F (nx n b p)) := by
  have h1 : cutD (blD n F) (some 1) none = (blD n F).drop 1 := by
    have e1 : HT.sIx n 0 (some 1) = 1 := by
      unfold HT.sIx
      simp
      omega
    have e2 : HT.sIx n n none = n := rfl
    unfold cutD
    rw [blD_len, e1, e2]
    exact List.take_of_length_le (by rw [List.length_drop, blD_len]; exact Nat.le_refl _)
  rw [h1]
  have hl : ((blD n F).drop 1).length = n - 1 := by rw [List.length_drop, blD_len]
  apply List.ext_getElem?
  intro i
  by_cases hi : i < n
  · rw [blD_at hi]
    by_cases h2 : i + 1 < n
    · rw [List.getElem?_append_left (by rw [hl]; omega), List.getElem?_drop, Nat.add_comm 1 i, blD_at h2]
      unfold nx
      rw [if_pos h2]
    · rw [List.getElem?_append_right (by rw [hl]; omega), hl, show i - (n - 1) = 0 by omega]
      unfold nx
      rw [if_neg h2] <;> rfl
  · rw [List.getElem?_eq_none (by rw [List.length_append, hl]; simp; omega), List.getElem?_eq_none (by rw [blD_len]; omega)]
theorem ok_row_truths (Z_len : mg "len" = none) (Z_zip : mg "zip" = none) (G_plain_truth : FnAt P w K mg base 1 "plain_truth" ["word", "first", "second"] (spR K R_plain_truth)) (G_spread : FnAt P w K mg base 2 "spread" ["word", "first", "second", "back"] (spN K R_spread)) (D : Def K mg "row_truths" s_row_truths ["word", "first", "second", "back"]) :
    FnAt P w K mg base 3 "row_truths" ["word", "first", "second", "back"] (spN K R_row_truths) := by
  refine D.okN sc_row_truths (fun ds d ⟨x, n, b, F, G, h, _⟩ => by rw [h] <;> rfl) fun f0 cdv A outer s H vs Q E ds es hr hv hR q => ?_
  obtain ⟨x, n, b, F, G, rfl, hb, hn, rfl⟩ := hR
  obtain ⟨v0, v1, v2, v3, rfl, h0, h1, h2, h3⟩ := hv.i4
  obtain rfl := h0.str_inv
  obtain rfl := h3.int_inv
  refine ⟨_, (pss_cons (ps_if (pt_cmpR op_eq (pv 0) pe_str (nomark _)) (pss_one (ps_ret (pe_op op_cat (pe_slice sl_list (pv 1) (po_some pe_int) po_none) (pe_lst (pa_cons (pe_ix ix_list (pv 1) (pv 3) (fun _ _ => rfl)) pa_nil))))) pss_nil)
      (pss_cons (ps_if (pt_cmpR op_in_seq (pv 0) (pe_tup (pa_cons pe_str (pa_cons pe_str (pa_cons pe_str (pa_cons pe_str (pa_cons pe_str pa_nil)))))) (by rfl)) (pss_one (ps_ret (pe_lc (own := [("a", 4), ("b", 5)]) (g := gTup K 2 (gCons (gName 4) (gCons (gName 5) gNil))) (tt := tYes) (te := (tCall _ [] E0 (tCons (tVar 0) (tCons (tVar 4) (tCons (tVar 5) tNil))))) (by rfl) sc_row_truths.nd (pi_zip (by rfl) Z_zip (pa_cons (pv 1) (pa_cons (pv 2) pa_nil))) (blkOk_by (N := N_row_truths) (own := [("a", 4), ("b", 5)]) (sc := defScope s_row_truths) (by decide +kernel)) (fun _ _ _ _ _ => (pg_tup rfl (pgs_cons (pg_name (i := 4) sc_row_truths.nd rfl (by first | exact Or.inl rfl | exact Or.inr rfl)) (pgs_cons (pg_name (i := 5) sc_row_truths.nd rfl (by first | exact Or.inl rfl | exact Or.inr rfl)) pgs_nil)))) (fun _ _ _ _ _ => pts_nil) (fun _ _ _ _ _ => (pe_callX G_plain_truth hr (pa_cons (pv 0) (pa_cons (pv 4) (pa_cons (pv 5) pa_nil)))))))) pss_nil)
      (pss_one (ps_ret (pe_callX G_spread hr (pa_cons (pv 0) (pa_cons (pv 1) (pa_cons (pv 2) (pa_cons (pv 3) pa_nil))))))))), ?_⟩
  try dsimp only [cxOf]
  refine b_when (Ex.refl H) (by walk_at "ev") (fun b1 H1 e1 => ?_) fun b1 H1 e1 => ?_
  · refine b_retL e1 ((l_cat (e_slL (e_var rfl h1) (eo_some ev_c) eo_none) (e_lst (K27.ea_cons (e_ixL (e_var rfl h1) (ev_var rfl) (atI_bl hb)) K27.ea_nil) (by simp)) ?_).is ?_) fun p xs H2 hp e2 => q p xs H2 (fresh_back e1 hp) e2
    · have hc := congrArg List.length (cut_nx (F := F) hb)
      rw [List.length_append, blD_len] at hc
      simp only [List.length_cons, List.length_nil] at hc ⊢
      omega
    · rw [cut_nx hb]
      refine blD_congr fun p hp => ?_
      unfold rwt
      rw [if_pos (str_t b1)]
  refine b_when e1 (by walk_at "ev") (fun b2 H2 e2 => ?_) fun b2 H2 e2 => ?_
  · refine b_retL e2 ((l_lcZ (fun _ => true) (fun p => .bool (plt x (F p) (G p))) (K27.ea_cons (e_var rfl h1) (K27.ea_cons (e_var rfl h2) K27.ea_nil)) (by rw [blD_len, blD_len]) (by rw [blD_len]; omega) (fun _ => rfl) (fun _ _ => rfl) (fun i v w d e H3 e3 hd he r1 r2 => evt_yes) (fun i v w d e H3 e3 hd he r1 r2 _ => ?_)).is (es := blD n (rwt x n b F G)) ?_) fun p xs H4 hp e4 => q p xs H4 (fresh_back e2 hp) e4
    · obtain ⟨_, rfl⟩ := blD_get hd
      obtain ⟨_, rfl⟩ := blD_get he
      exact e_call (ds := [.str x, .bool (F i), .bool (G i)]) (K27.ea_cons (e_var rfl (.str x)) (K27.ea_cons (e_var rfl r1) (K27.ea_cons (e_var rfl r2) K27.ea_nil))) ⟨x, _, _, rfl, rfl⟩
    · rw [blD_len, giv_bl]
      refine blD_congr fun p hp => ?_
      unfold rwt
      rw [if_neg (str_f b1), if_pos b2]
  · refine b_retL e2 ((l_call (ds := [.str x, .list (blD n F), .list (blD n G), .int (b : Nat)]) (K27.ea_cons (e_var rfl (.str x)) (K27.ea_cons (e_var rfl h1) (K27.ea_cons (e_var rfl h2) (K27.ea_cons (e_var rfl (.int _)) K27.ea_nil)))) ⟨x, n, b, F, G, rfl, hb, hn, rfl⟩).is ?_) fun p xs H3 hp e3 => q p xs H3 (fresh_back e2 hp) e3
    refine blD_congr fun p hp => ?_
    unfold rwt
    rw [if_neg (str_f b1), if_neg (by rw [b2]; exact Bool.false_ne_true)]
end
end K27

/-! K27: lassoproof/lassos/meaning.py: truths_along. -/
namespace K27
open PySem PySem.Spec PyProof.Rows L2 Evl
local macro_rules | `(tactic| walk_at "ev") => `(tactic| first
  | exact ev_c
  | exact ev_var rfl
  | (refine' et_test ?h; (case h => walk_at "ev"))
  | (refine' et_B ?h; (case h => walk_at "ev"))
  | (refine' et_not ?h; (case h => walk_at "ev"))
  | (refine' et_and ?a (fun _ => ?b); (case a => walk_at "ev"); (case b => walk_at "ev"))
  | (refine' et_or ?a (fun _ => ?b); (case a => walk_at "ev"); (case b => walk_at "ev"))
  | (refine' ev_op ?a ?b (rv_eq ?c); (case a => walk_at "ev"); (case b => walk_at "ev"); (case c => rfl))
  | (refine' ev_op ?a ?b rv_I0; (case a => walk_at "ev"); (case b => walk_at "ev"))
  | (refine' ev_inU ?a ?b ?c ?d; (case a => walk_at "ev"); (case b => (refine' eu_tup ?x ?y; (case x => walk_at "ev"); (case y => decide))); (case c => rfl); (case d => rfl))
  | (refine' ev_str (e_ixT ?a ?b ?c); (case a => walk_at "ed"); (case b => walk_at "ev"); (case c => first | exact at0 | exact at1 | exact at2))
  | (refine' ev_int (e_ixT ?a ?b ?c); (case a => walk_at "ed"); (case b => walk_at "ev"); (case c => first | exact at0 | exact at1 | exact at2))
  | exact Evl.ea_nil
  | (refine' Evl.ea_cons ?a ?b; (case a => walk_at "ev"); (case b => walk_at "ev")))
local macro_rules | `(tactic| walk_at "ed") => `(tactic| first
  | exact e_var rfl (by assumption)
  | exact e_var rfl (by constructor)
  | exact K27.ea_nil
  | (refine' K27.ea_cons ?a ?b; (case a => walk_at "ed"); (case b => walk_at "ed"))
  | (refine' e_tup ?a ?b; (case a => walk_at "ed"); (case b => (simp only [List.length_cons, List.length_nil, List.length_append]; omega)))
  | (refine' e_ixT ?a ?b ?c; (case a => walk_at "ed"); (case b => walk_at "ev"); (case c => first | exact at0 | exact at1 | exact at2))
  | (refine' e_ev ?a ?b; (case a => walk_at "ev"); (case b => first | exact .str _ | exact .int _ | exact .bl _ | assumption)))
/-! ### states -/
def stD (is : List Int) : PyData := .tuple (is.map PyData.int)
def rOf (N : List Str) (is : List Int) : Str → Int := fun x => ((N.zip is).lookup x).getD 0
def StOk (N : List Str) (is : List Int) : Prop := is.length = N.length ∧ ∀ i ∈ is, -(2 ^ 64) < i ∧ i < 2 ^ 64
theorem stD_noL (is : List Int) : noL (stD is) = true := noLs_map (fun _ => rfl) is
theorem lookup_zip {x : Str} : ∀ {N : List Str} {is : List Int}, is.length = N.length → x ∈ N → ∃ i ∈ is, (N.zip is).lookup x = some i
  | [], _, _, h => by cases h
  | y :: N, [], hl, _ => by simp at hl
  | y :: N, i :: is, hl, h => by
    by_cases e : x = y
    · subst e
      exact ⟨i, List.mem_cons_self .., by simp [List.lookup]⟩
    · have hx : x ∈ N := by
        rcases List.mem_cons.mp h with z | z
        · exact absurd z e
        · exact z
      obtain ⟨k, hk, e2⟩ := lookup_zip (N := N) (is := is) (by simpa using hl) hx
      refine ⟨k, List.mem_cons_of_mem _ hk, ?_⟩
      simp only [List.zip_cons_cons, List.lookup]
      rw [show (x == y) = false from beq_eq_false_iff_ne.mpr e]
      exact e2
theorem envOf {N : List Str} {is : List Int} (h : StOk N is) : EnvOf N (N.zip is) (rOf N is) := fun x hx => by
  obtain ⟨i, hi, e⟩ := lookup_zip h.1 hx
  have e2 : rOf N is x = i := by unfold rOf; rw [e] <;> rfl
  rw [e2]
  exact ⟨e, h.2 i hi⟩
/-! ### a row's truth is the formula's -/
section
variable {n b : Nat} {ρ : Nat → Str → Int}
theorem dec_funs {s : Nat → Nat} {P P' Q Q' : Nat → Bool} {e e' : Bool} {k p : Nat} (h1 : ∀ q, P q = P' q) (h2 : ∀ q, Q q = Q' q) (h3 : e = e') : dec s P Q e k p = dec s P' Q' e' k p := by
  obtain rfl : P = P' := funext h1
  obtain rfl : Q = Q' := funext h2
  rw [h3]
theorem rwt_un (o : Un) (g : Fm) (p : Nat) : rwt o.w n b (tr n b ρ g) (tr n b ρ g) p = tr n b ρ (.un o g) p := by
  cases o with
  | not =>
    unfold rwt
    rw [if_neg (by decide +kernel), if_pos (by decide +kernel)]
    exact if_pos rfl
  | next => exact if_pos rfl
  | ev =>
    unfold rwt
    rw [if_neg (by decide +kernel), if_neg (by decide +kernel)]
    exact dec_funs (fun q => if_pos rfl) (fun q => if_pos rfl) (by decide +kernel)
  | al =>
    unfold rwt
    rw [if_neg (by decide +kernel), if_neg (by decide +kernel)]
    refine dec_funs (fun q => ?_) (fun q => ?_) (by decide +kernel)
    · unfold Pw
      rw [if_neg (by decide +kernel)]
      exact if_pos rfl
    · unfold Qw
      rw [if_neg (by decide +kernel)]
      exact if_pos rfl
theorem rwt_bi (o : Bi) (g h : Fm) (p : Nat) : rwt o.w n b (tr n b ρ g) (tr n b ρ h) p = tr n b ρ (.bi o g h) p := by
  have hP : ∀ (x : Str) (a c : Bool), ¬ x = "eventually" → ¬ x = "always" → Pw x a c = if x = "until" ∨ x = "unless" then a else c := fun x a c h1 h2 => by
    unfold Pw
    rw [if_neg h1, if_neg h2]
  have hQ : ∀ (x : Str) (a c : Bool), ¬ x = "eventually" → ¬ x = "always" → Qw x a c = if x = "until" ∨ x = "unless" then c else a && c := fun x a c h1 h2 => by
    unfold Qw
    rw [if_neg h1, if_neg h2]
  unfold rwt
  rw [if_neg (by cases o <;> decide +kernel)]
  cases o with
  | and =>
    rw [if_pos (by decide +kernel)]
    unfold plt
    rw [if_neg (by decide +kernel)]
    exact if_pos rfl
  | or =>
    rw [if_pos (by decide +kernel)]
    unfold plt
    rw [if_neg (by decide +kernel), if_neg (by decide +kernel)]
    exact if_pos rfl
  | imp =>
    rw [if_pos (by decide +kernel)]
    unfold plt
    rw [if_neg (by decide +kernel), if_neg (by decide +kernel), if_neg (by decide +kernel)]
    exact if_pos rfl
  | same =>
    rw [if_pos (by decide +kernel)]
    unfold plt
    rw [if_neg (by decide +kernel), if_neg (by decide +kernel), if_neg (by decide +kernel), if_neg (by decide +kernel)] <;> rfl
  | untl =>
    rw [if_neg (by decide +kernel)]
    exact dec_funs (fun q => by rw [hP _ _ _ (by decide +kernel) (by decide +kernel), if_pos (.inl rfl)]) (fun q => by rw [hQ _ _ _ (by decide +kernel) (by decide +kernel), if_pos (.inl rfl)]) (by decide +kernel)
  | unl =>
    rw [if_neg (by decide +kernel)]
    exact dec_funs (fun q => by rw [hP _ _ _ (by decide +kernel) (by decide +kernel), if_pos (.inr rfl)]) (fun q => by rw [hQ _ _ _ (by decide +kernel) (by decide +kernel), if_pos (.inr rfl)]) (by decide +kernel)
  | str =>
    rw [if_neg (by decide +kernel)]
    exact dec_funs (fun q => by rw [hP _ _ _ (by decide +kernel) (by decide +kernel), if_neg (by decide +kernel)]) (fun q => by rw [hQ _ _ _ (by decide +kernel) (by decide +kernel), if_neg (by decide +kernel)]) (by decide +kernel)
  | rel =>
    rw [if_neg (by decide +kernel)]
    show _ = !dec (nx n b) (fun q => !tr n b ρ g q) (fun q => !tr n b ρ h q) false n p
    rw [dec_neg]
    exact dec_funs (fun q => by rw [hP _ _ _ (by decide +kernel) (by decide +kernel), if_neg (by decide +kernel)]) (fun q => by rw [hQ _ _ _ (by decide +kernel) (by decide +kernel), if_neg (by decide +kernel)]) (by decide +kernel)
end
theorem atI_last {α : Type} {xs : List α} {m : Nat} {x : α} (hl : xs.length = m + 1) (h : xs[m]? = some x) : atI xs (-1) = some x := by
  unfold atI ixN
  rw [if_neg (by decide), if_pos (by omega), hl]
  show xs[(-1 + ((m + 1 : Nat) : Int)).toNat]? = some x
  rw [show (-1 + ((m + 1 : Nat) : Int)).toNat = m by omega]
  exact h
section
variable {K : PySem.W.Frag} {σ : L2.St} {H H0 : Hp} {te : TE} {d : PyData} {ds : List PyData} {D : Ends} {C : Addr}
theorem e_fld {r dx : Addr} {fs : List (Str × V)} {f : Str} {v : V} (h : Ev te σ H (.ref r)) (hr : H r = some (.ins C dx fs)) (hc : Cls K C) (hn : NoAttr K C f) (hf : fs.lookup f = some v) (hd : Da K H v d) : E K (tFld K te f) σ H d := fun H1 e Q q => h H1 e _ fun H2 e2 =>
  ⟨r, C, dx, fs, v, rfl, (e.trans e2) _ _ hr, hc, hn, hf, q v H2 e2 (hd.mono (e.trans e2))⟩
/-- xs.append(a new list) -/
theorem b_appL1 {ta : TE} {l : Addr} {xs : List V} (e0 : Ex H0 H) (hl : H0 l = some (.lst xs)) (ha : Ev ta σ H0 (.ref l)) (h : EL K te σ H0 ds) (hz : xs.length < 100000) (k : ∀ p ys H1, H p = none → Ex H0 H1 → H1 p = some (.lst ys) → DaAll K H1 ys ds → D.nx σ (upd H1 l (.lst (xs ++ [.ref p])))) :
    tDrop (tBM K "list" rAppend ta (tCons te tNil)) D σ H := ha H e0 _ fun H1 e1 =>
  ⟨Or.inl ⟨rfl, xs, sq_of (e1 l _ (e0 l _ hl))⟩, h H1 (e0.trans e1) _ fun p ys H2 hp e2 hp2 r => ⟨l, xs, .ref p, rfl, rfl, e2 l _ (e1 l _ (e0 l _ hl)), sz_lt hz, k p ys H2 (fresh_back e1 hp) ((e0.trans e1).trans e2) hp2 r⟩⟩
end
section
variable {P : Program} {w : World} {K : PySem.W.Frag} {mg : Str → Option Value} {base : Heap}
theorem ev_ask {σ : L2.St} {H : Hp} {N : List Str} {f : Fm} {ta : TA} {E' : XK} (h : EA K ta σ H [f.d, .list (N.map PyData.str)]) (hf : f.fine N) (hd : f.dp ≤ 12) : Ev (tCall (spAsk K N) [] E' ta) σ H .non := fun H1 e Q q =>
  h H1 e _ fun vs H2 e2 r => by
    obtain ⟨v, vn, rfl, r1, r2⟩ := r.i2
    exact ⟨v, vn, f, rfl, r1, r2, hf, hd, fun H3 e3 => q H3 (e2.trans e3)⟩
theorem b_num {σ : L2.St} {H H0 : Hp} {N : List Str} {f : Fm} {ta : TA} {E' : XK} {C : Addr} {k : Nat} {tz : TS} {D : Ends} (e0 : Ex H0 H) (h : EA K ta σ H0 [f.d]) (hf : f.fine N) (hd : f.dp ≤ 12) (q : ∀ r a b H1, Ex H0 H1 → RowsAt K C H1 r (Bk.fm f Bk0).1 a b → tz D (σ.set k (some (.ref r))) H1) : tSeq (tAsg (tCall (spNum K C N) [] E' ta) (gName k)) tz D σ H :=
  h H e0 _ fun vs H2 e2 r => by
    obtain ⟨v, rfl, r1⟩ := r.i1
    exact ⟨v, f, rfl, r1, hf, hd, fun H3 r a b e3 hR => q r a b H3 ((e0.trans e2).trans e3) hR⟩
abbrev s_truths_along : Stmt := topS 35
abbrev N_truths_along : List Str := ["formula", "names", "stem", "loop", "rows", "bindings", "table", "word", "left", "right", "second", "state", "_", "values"]
theorem sc_truths_along : FnScope N_truths_along ["formula", "names", "stem", "loop"] (defScope s_truths_along) := ⟨rfl, rfl, rfl, by decide +kernel, rfl, by decide +kernel, by decide +kernel⟩
/-- the table so far: row j's list stands, apart from the table -/
def Tbl (n : Nat) (T : Fm → Nat → Bool) (fs : List Fm) (tb : Addr) (i : Nat) (H : Hp) : Prop := ∃ ts : List V, H tb = some (.lst ts) ∧ ts.length = i ∧ ∀ (j : Nat) (g : Fm), j < i → fs[j]? = some g → ∃ p, ts[j]? = some (.ref p) ∧ p ≠ tb ∧ H p = some (.lst (vb n (T g)))
theorem Tbl.ex {n : Nat} {T : Fm → Nat → Bool} {fs : List Fm} {tb : Addr} {i : Nat} {H H' : Hp} (h : Tbl n T fs tb i H) (e : Ex H H') : Tbl n T fs tb i H' := by
  obtain ⟨ts, h1, h2, h3⟩ := h
  refine ⟨ts, e _ _ h1, h2, fun j g hj hg => ?_⟩
  obtain ⟨p, p1, p2, p3⟩ := h3 j g hj hg
  exact ⟨p, p1, p2, e _ _ p3⟩
theorem Tbl.app {n : Nat} {T : Fm → Nat → Bool} {fs : List Fm} {tb p : Addr} {i : Nat} {H : Hp} {ts : List V} {g : Fm} (h : Tbl n T fs tb i H) (ht : H tb = some (.lst ts)) (hg : fs[i]? = some g) (hp : H p = some (.lst (vb n (T g)))) (hpt : p ≠ tb) : Tbl n T fs tb (i + 1) (upd H tb (.lst (ts ++ [.ref p]))) := by
  obtain ⟨ts', h1, h2, h3⟩ := h
  rw [ht] at h1
  cases h1
  refine ⟨_, upd_same, by simp [h2], fun j f hj hf => ?_⟩
  by_cases hji : j < i
  · obtain ⟨q, q1, q2, q3⟩ := h3 j f hji hf
    exact ⟨q, by rw [List.getElem?_append_left (by omega)]; exact q1, q2, by rw [upd_ne q2]; exact q3⟩
  · have e : j = i := by omega
    subst e
    rw [hg] at hf
    cases hf
    exact ⟨p, by rw [List.getElem?_append_right (by omega), h2, Nat.sub_self] <;> rfl, hpt, by rw [upd_ne hpt]; exact hp⟩
def R_truths_along (N : List Str) : Rl := fun ds d => ∃ (f : Fm) (A B : List (List Int)), ds = [f.d, .list (N.map PyData.str), .list (A.map stD), .list (B.map stD)] ∧ f.fine N ∧ f.dp ≤ 12 ∧ N.Nodup ∧ (∀ is ∈ A ++ B, StOk N is) ∧ 0 < B.length ∧ A.length + B.length ≤ 1000 ∧
  d = .list (blD (A.length + B.length) (tr (A.length + B.length) A.length (fun p => rOf N ((A ++ B).getD p [])) f))
theorem ok_truths_along {N : List Str} {CR : Addr} (TR : ClsR K mg CR) (Z_len : mg "len" = none) (Z_dict : mg "dict" = none) (Z_zip : mg "zip" = none) (G_ask_names : FnAt P w K mg base 18 "ask_names" ["formula", "names"] (spAsk K N)) (G_number_rows : FnAt P w K mg base 15 "number_rows" ["formula"] (spNum K CR N))
    (G_condition_truth : FnAt P w K mg base 6 "condition_truth" ["condition", "values"] (spR K (R_comparison_truth N))) (G_row_truths : FnAt P w K mg base 3 "row_truths" ["word", "first", "second", "back"] (spN K R_row_truths)) (D : Def K mg "truths_along" s_truths_along ["formula", "names", "stem", "loop"]) :
    FnAt P w K mg base 19 "truths_along" ["formula", "names", "stem", "loop"] (spR K (R_truths_along N)) := by
  refine D.ok sc_truths_along (fun ds d ⟨f, A, B, h, _⟩ => by rw [h] <;> rfl) fun f0 cdv A0 outer s H vs Q E ds d hr hv hR q => ?_
  obtain ⟨f, A, B, rfl, hf, hd, hN, hst, hB0, hn, rfl⟩ := hR
  obtain ⟨v0, v1, v2, v3, rfl, h0, h1, h2, h3⟩ := hv.i4
  refine ⟨_, (pss_cons (ps_expr (pe_callX G_ask_names hr (pa_cons (pv 0) (pa_cons (pv 1) pa_nil))))
      (pss_cons (ps_set (i := 4) sc_truths_along.nd rfl (by first | exact Or.inl rfl | exact Or.inr rfl) (pe_callX G_number_rows hr (pa_cons (pv 0) pa_nil)))
      (pss_cons (ps_setLc (i := 5) (own := [("state", 11)]) (g := gName 11) (tt := tYes) (te := (tDictZ K (tCons (tVar 1) (tCons (tVar 11) tNil))))  rfl sc_truths_along.nd rfl rfl (sw_true rfl rfl rfl (by decide +kernel)) (pi_list (pe_op op_cat (pv 2) (pv 3))) (blkOk_by (N := N_truths_along) (own := [("state", 11)]) (sc := defScope s_truths_along) (by decide +kernel)) (fun _ _ _ _ _ => (pg_name (i := 11) sc_truths_along.nd rfl (by first | exact Or.inl rfl | exact Or.inr rfl))) (fun _ _ _ _ _ => pts_nil) (fun _ _ _ _ _ => (pe_dictZ (by rfl) Z_dict (by rfl) Z_zip (pa_cons (pv 1) (pa_cons (pv 11) pa_nil)))))
      (pss_cons (ps_set (i := 6) sc_truths_along.nd rfl (by first | exact Or.inl rfl | exact Or.inr rfl) (pe_lst pa_nil))
      (pss_cons (ps_for PassesOwn.never rfl (pi_list (pe_fld (pv 4) rfl)) (pg_tup rfl (pgs_cons (pg_name (i := 7) sc_truths_along.nd rfl (by first | exact Or.inl rfl | exact Or.inr rfl)) (pgs_cons (pg_name (i := 8) sc_truths_along.nd rfl (by first | exact Or.inl rfl | exact Or.inr rfl)) (pgs_cons (pg_name (i := 9) sc_truths_along.nd rfl (by first | exact Or.inl rfl | exact Or.inr rfl)) pgs_nil)))) (pss_one (ps_if (PW.pt (pw_or (pt_cmpR op_eq (pv 7) pe_str (nomark _)) (pw_or1 (pt_cmpR op_eq (pv 7) pe_str (nomark _))))) (pss_one (ps_expr (pe_bm PySem.F.plainAttrs_list PySem.F.slot_list_append PySem.F.type_list_append mt_append (pv 6) (pa_cons (pe_lc (own := [("_", 12)]) (g := gName 12) (tt := tYes) (te := (tOp _ (tVar 7) (tC _))) (by rfl) sc_truths_along.nd (pi_list (pv 5)) (blkOk_by (N := N_truths_along) (own := [("_", 12)]) (sc := defScope s_truths_along) (by decide +kernel)) (fun _ _ _ _ _ => (pg_name (i := 12) sc_truths_along.nd rfl (by first | exact Or.inl rfl | exact Or.inr rfl))) (fun _ _ _ _ _ => pts_nil) (fun _ _ _ _ _ => (pe_cmpR op_eq (pv 7) pe_str (nomark _)))) pa_nil)))) (pss_one (ps_if (pt_cmpR op_eq (pv 7) pe_str (nomark _)) (pss_one (ps_expr (pe_bm PySem.F.plainAttrs_list PySem.F.slot_list_append PySem.F.type_list_append mt_append (pv 6) (pa_cons (pe_lc (own := [("values", 13)]) (g := gName 13) (tt := tYes) (te := (tCall _ [] E0 (tCons (tOp (rIxL K) (tFld K (tVar 4) _) (tVar 8)) (tCons (tVar 13) tNil)))) (by rfl) sc_truths_along.nd (pi_list (pv 5)) (blkOk_by (N := N_truths_along) (own := [("values", 13)]) (sc := defScope s_truths_along) (by decide +kernel)) (fun _ _ _ _ _ => (pg_name (i := 13) sc_truths_along.nd rfl (by first | exact Or.inl rfl | exact Or.inr rfl))) (fun _ _ _ _ _ => pts_nil) (fun _ _ _ _ _ => (pe_callX G_condition_truth hr (pa_cons (pe_ix ix_list (pe_fld (pv 4) rfl) (pv 8) (fun _ _ => rfl)) (pa_cons (pv 13) pa_nil))))) pa_nil)))) (pss_cons (ps_set (i := 10) sc_truths_along.nd rfl (by first | exact Or.inl rfl | exact Or.inr rfl) (pe_ifExp (pt_cmpR op_eq (pv 9) (pe_un un_neg pe_int) (nomark _)) (pv 8) (pv 9)))
      (pss_one (ps_expr (pe_bm PySem.F.plainAttrs_list PySem.F.slot_list_append PySem.F.type_list_append mt_append (pv 6) (pa_cons (pe_callX G_row_truths hr (pa_cons (pv 7) (pa_cons (pe_ix ix_list (pv 6) (pv 8) (fun _ _ => rfl)) (pa_cons (pe_ix ix_list (pv 6) (pv 10) (fun _ _ => rfl)) (pa_cons (pe_callB call_lenS (by rfl) Z_len PySem.boot_len (pa_cons (pv 2) pa_nil)) pa_nil))))) pa_nil))))))))))
      (pss_one (ps_ret (pe_ix ix_list (pv 6) (pe_un un_neg pe_int) (fun _ _ => rfl))))))))), ?_⟩
  try dsimp only [cxOf]
  generalize hnn : A.length + B.length = n at *
  have hlenAB : (A ++ B).length = n := by rw [List.length_append, hnn]
  -- the book
  obtain ⟨more, hD, hix, hsz, hlast⟩ := Desc.fm f (fs := []) (B := Bk0) ⟨rfl, fun i g h => by simp at h⟩
  rw [List.nil_append] at hD hix hlast
  have hlast' := hlast fun g hg => (by cases hg)
  have hfacts : FactsOk N (Bk.fm f Bk0).1 := FactsOk.fm f (fun c hc => by cases hc) hf
  have hrl : (Bk.fm f Bk0).1.rows.length ≤ 4096 := by
    have h1 := (fm_len f Bk0).1
    have h2 := sz_dp f
    have h3 : 2 ^ f.dp ≤ 2 ^ 12 := Nat.pow_le_pow_right (by decide) hd
    have h4 : (2 : Nat) ^ 12 = 4096 := by decide
    have h5 : Bk0.rows.length = 0 := rfl
    omega
  generalize (Bk.fm f Bk0).2 = ix at *
  -- ask_names
  refine b_drop (Ex.refl H) (ev_ask (K27.ea_cons (e_var rfl h0) (K27.ea_cons (e_var rfl h1) K27.ea_nil)) hf hd) fun H1 e1 => ?_
  -- rows = number_rows(formula)
  refine b_num e1 (K27.ea_cons (e_var rfl h0) K27.ea_nil) hf hd fun r a b H3 e03 hRow => ?_
  generalize (Bk.fm f Bk0).1 = Bk1 at *
  show tSeq _ _ _ [some v0, some v1, some v2, some v3, some (.ref r), none, none, none, none, none, none, none, none, none] H3
  -- bindings
  refine b_asgL (Ex.refl H3) ((l_lcL (fun _ => true) (fun i => envD (N.zip ((A ++ B).getD i []))) (e_cat (e_var rfl (h2.mono e03)) (e_var rfl (h3.mono e03)) (by simp; omega)) (by simp; omega) (fun i => noL_env _) (fun _ => rfl) (fun i v d H4 e4 hd r => evt_yes) (fun i v d H4 e4 hd r _ => ?_)).is (es := (List.range n).map fun i => envD (N.zip ((A ++ B).getD i []))) ?_) fun bl ys H4 hbl e4 hbl4 r4 => ?_
  · rw [← List.map_append, List.getElem?_map] at hd
    cases hi : (A ++ B)[i]? with
    | none =>
      rw [hi] at hd
      cases hd
    | some is =>
      rw [hi] at hd
      cases hd
      have eg : (A ++ B).getD i [] = is := by rw [List.getD_eq_getElem?_getD, hi] <;> rfl
      rw [eg]
      exact e_dictZ (K27.ea_cons (e_var rfl (h1.mono (e03.trans e4))) (K27.ea_cons (e_var rfl r) K27.ea_nil)) hN (hst is (List.mem_of_getElem? hi)).1.symm
  · rw [giv_all, List.length_append, List.length_map, List.length_map, hnn]
  have hR4 := hRow.mono e4
  obtain ⟨dx, c, hob⟩ := hR4.ob
  obtain ⟨vf, hvf, hfd⟩ := hR4.fs
  obtain ⟨vr, hvr, hrd⟩ := hR4.rs
  have hlr : vr.length = more.length := by rw [hrd.length, List.length_map, hD.len]
  -- table = []
  refine b_asgL (Ex.refl H4) (l_lst (K := K) K27.ea_nil (by simp)) fun tb xs0 H5 htb e5 htb5 r5 => ?_
  cases r5
  show tSeq _ _ _ [some v0, some v1, some v2, some v3, some (.ref r), some (.ref bl), some (.ref tb), none, none, none, none, none, none, none] H5
  have hbd : ∀ H', Ex H4 H' → Da K H' (.ref bl) (.list ((List.range n).map fun i => envD (N.zip ((A ++ B).getD i [])))) := fun H' e => .lst (e _ _ hbl4) (r4.mono e)
  have hbdl : ((List.range n).map fun i => envD (N.zip ((A ++ B).getD i []))).length = n := by simp
  have hbda : ∀ (i : Nat) (d : PyData), ((List.range n).map fun i => envD (N.zip ((A ++ B).getD i [])))[i]? = some d → d = envD (N.zip ((A ++ B).getD i [])) ∧ StOk N ((A ++ B).getD i []) := fun i d hd => by
    have hi : i < n := by
      have z := (List.getElem?_eq_some_iff.mp hd).1
      simp at z
      exact z
    have e : d = envD (N.zip ((A ++ B).getD i [])) := by
      rw [List.getElem?_map, List.getElem?_range hi] at hd
      exact (Option.some.inj hd).symm
    refine ⟨e, hst _ ?_⟩
    rw [List.getD_eq_getElem?_getD, List.getElem?_eq_getElem (by omega)]
    exact List.getElem_mem _
  generalize hT : tr n A.length (fun p => rOf N ((A ++ B).getD p [])) = T at *
  have hfr : ∀ H', Ex H4 H' → Ev (tFld K (tVar 4) "rows") [some v0, some v1, some v2, some v3, some (.ref r), some (.ref bl), some (.ref tb), none, none, none, none, none, none, none] H' (.ref b) := fun H' e H6 e6 Q q => ⟨_, rfl, r, CR, dx, _, _, rfl, (e.trans e6) _ _ hob, TR.cl, TR.nR, lkr_rows _ _ _, q H6 (Ex.refl H6)⟩
  refine q_forL (hfr H5 e5) (sq_of (e5 _ _ hvr)) (fun i σ' H' => (∃ o7 o8 o9 o10, σ' = [some v0, some v1, some v2, some v3, some (.ref r), some (.ref bl), some (.ref tb), o7, o8, o9, o10, none, none, none]) ∧ Ex H4 H' ∧ Tbl n T more tb i H') (fun H6 e6 => ⟨⟨_, _, _, _, rfl⟩, e5.trans e6, [], e6 _ _ htb5, rfl, fun j g hj => by omega⟩) (fun i σ' H' _ h => sq_of (h.2.1 _ _ hvr)) ?_ ?_
  · rintro i x σ' H6 hx ⟨⟨o7, o8, o9, o10, rfl⟩, e6, hTb⟩
    have hil := (List.getElem?_eq_some_iff.mp hx).1
    obtain ⟨d, hd', rd⟩ := (hrd.mono e6).get hx
    obtain ⟨g, hg⟩ : ∃ g, more[i]? = some g := ⟨more[i]'(by omega), List.getElem?_eq_getElem (by omega)⟩
    obtain ⟨rw', hrw, hrow⟩ := hD.row i g hg
    rw [List.getElem?_map, hrw] at hd'
    cases hd'
    obtain ⟨ra, rxs, rfl, hra, hrx⟩ := rd.tup_inv
    obtain ⟨y0, y1, y2, rfl, q0, q1, q2⟩ := hrx.i3
    obtain rfl := q0.str_inv
    obtain rfl := q1.int_inv
    obtain rfl := q2.int_inv
    refine ⟨ra, _, rfl, hra, rfl, _, _, rfl, _, _, rfl, _, _, rfl, rfl, ?_⟩
    show tIfS _ _ _ _ [some v0, some v1, some v2, some v3, some (.ref r), some (.ref bl), some (.ref tb), some (.str rw'.1), some (.int rw'.2.1), some (.int rw'.2.2), o10, none, none, none] H6
    obtain ⟨ts, hts, htl, hrows⟩ := id hTb
    have hml := hD.len
    have htz : ts.length < 100000 := by omega
    have fin : ∀ (p : Addr) (ys : List V) (H8 : Hp) (o7 o8 o9 o10 : Option V), H6 p = none → Ex H6 H8 → H8 p = some (.lst ys) → DaAll K H8 ys (blD n (T g)) → (∃ o7' o8' o9' o10', [some v0, some v1, some v2, some v3, some (.ref r), some (.ref bl), some (.ref tb), o7, o8, o9, o10, none, none, none] = [some v0, some v1, some v2, some v3, some (.ref r), some (.ref bl), some (.ref tb), o7', o8', o9', o10', none, none, none]) ∧ Ex H4 (upd H8 tb (.lst (ts ++ [.ref p]))) ∧ Tbl n T more tb (i + 1) (upd H8 tb (.lst (ts ++ [.ref p]))) := fun p ys H8 o7 o8 o9 o10 hp e8 hp8 r8 => by
      obtain rfl := r8.vb
      exact ⟨⟨_, _, _, _, rfl⟩, Ex.mut (e6.trans e8) htb, (hTb.ex e8).app (e8 _ _ hts) hg hp8 fun z => by rw [z, hts] at hp; cases hp⟩
    have hbd6 := hbd H6 e6
    cases g with
    | tt =>
      obtain rfl : rw' = rTT := hrow
      refine b_yes1 (Ex.refl H6) (by walk_at "ev") (by decide +kernel) fun H7 e7 => ?_
      refine b_appL1 (Ex.refl H7) (e7 _ _ hts) (ev_var rfl) ((l_lcL (fun _ => true) (fun _ => .bool true) (e_var rfl (hbd6.mono e7)) (by rw [hbdl]; omega) (fun _ => rfl) (fun _ => rfl) (fun i v d H8 e8 hd r => evt_yes) (fun i v d H8 e8 hd r _ => e_bl (ev_is (ev_op (ev_var rfl) ev_c (rv_eq rfl)) (by decide +kernel)))).is (es := blD n (T .tt)) ?_) htz fun p ys H8 hp e8 hp8 r8 => fin p ys H8 _ _ _ _ (fresh_back e7 hp) (e7.trans e8) hp8 r8
      rw [hbdl, giv_bl]
      exact blD_congr fun p hp => by rw [← hT] <;> rfl
    | ff =>
      obtain rfl : rw' = rFF := hrow
      refine b_yes1 (Ex.refl H6) (by walk_at "ev") (by decide +kernel) fun H7 e7 => ?_
      refine b_appL1 (Ex.refl H7) (e7 _ _ hts) (ev_var rfl) ((l_lcL (fun _ => true) (fun _ => .bool false) (e_var rfl (hbd6.mono e7)) (by rw [hbdl]; omega) (fun _ => rfl) (fun _ => rfl) (fun i v d H8 e8 hd r => evt_yes) (fun i v d H8 e8 hd r _ => e_bl (ev_is (ev_op (ev_var rfl) ev_c (rv_eq rfl)) (by decide +kernel)))).is (es := blD n (T .ff)) ?_) htz fun p ys H8 hp e8 hp8 r8 => fin p ys H8 _ _ _ _ (fresh_back e7 hp) (e7.trans e8) hp8 r8
      rw [hbdl, giv_bl]
      exact blD_congr fun p hp => by rw [← hT] <;> rfl
    | cmp c t u =>
      obtain ⟨k, rfl, hk⟩ := hrow
      show tIfS _ _ _ _ [some v0, some v1, some v2, some v3, some (.ref r), some (.ref bl), some (.ref tb), some (.str "fact"), some (.int (k : Int)), some (.int (-1)), o10, none, none, none] H6
      have hcf := (hfacts _ (List.mem_of_getElem? hk)).2
      refine b_no1 (Ex.refl H6) (by walk_at "ev") (by decide +kernel) fun H7 e7 => ?_
      refine b_yes1 (Ex.refl H7) (by walk_at "ev") (by decide +kernel) fun H8 e8 => ?_
      have e68 := e7.trans e8
      have hff : ∀ σ' : L2.St, σ'[4]? = some (some (.ref r)) → ∀ H9, Ex H8 H9 → K27.E K (tFld K (tVar 4) "facts") σ' H9 (.list (Bk1.facts.map Fm.d)) := fun σ' h4 H9 e9 => e_fld (ev_var h4) ((e6.trans (e68.trans e9)) _ _ hob) TR.cl TR.nF (lkr_facts _ _ _) (.lst ((e6.trans (e68.trans e9)) _ _ hvf) (hfd.mono (e6.trans (e68.trans e9))))
      refine b_appL1 (Ex.refl H8) (e68 _ _ hts) (ev_var rfl) ((l_lcL (fun _ => true) (fun i => .bool (T (.cmp c t u) i)) (e_var rfl (hbd6.mono e68)) (by rw [hbdl]; omega) (fun _ => rfl) (fun _ => rfl) (fun i v d H9 e9 hd r => evt_yes) (fun i v d H9 e9 hd rr _ => ?_)).is (es := blD n (T (.cmp c t u))) (by rw [hbdl, giv_bl])) htz fun p ys H9 hp e9 hp9 r9 => fin p ys H9 _ _ _ _ (fresh_back e68 hp) (e68.trans e9) hp9 r9
      obtain ⟨rfl, hso⟩ := hbda i d hd
      refine e_call (ds := [(Fm.cmp c t u).d, envD (N.zip ((A ++ B).getD i []))]) (K27.ea_cons (e_ixL (hff _ rfl H9 e9) (ev_var rfl) (atI_nat (by rw [List.getElem?_map, hk] <;> rfl))) (K27.ea_cons (e_var rfl rr) K27.ea_nil)) ⟨c, t, u, _, rOf N ((A ++ B).getD i []), rfl, hcf, envOf hso, ?_⟩
      rw [← hT] <;> rfl
    | un o g' =>
      obtain ⟨l, hl, rfl, hfl⟩ := hrow
      show tIfS _ _ _ _ [some v0, some v1, some v2, some v3, some (.ref r), some (.ref bl), some (.ref tb), some (.str o.w), some (.int (l : Int)), some (.int (-1)), o10, none, none, none] H6
      obtain ⟨p, p1, p2, p3⟩ := hrows l g' hl hfl
      refine b_no1 (Ex.refl H6) (by walk_at "ev") (by cases o <;> decide +kernel) fun H7 e7 => ?_
      refine b_no1 (Ex.refl H7) (by walk_at "ev") (by cases o <;> decide +kernel) fun H8 e8 => ?_
      have e68 := e7.trans e8
      refine b_asg (v := .int (l : Int)) (Ex.refl H8) (ev_if (et_test (ev_op (ev_var rfl) (ev_neg ev_c) (rv_eq rfl))) (fun _ => ev_var rfl) (fun z => by cases z)) fun H9 e9 => ?_
      have e69 := e68.trans e9
      have tl : ∀ (σ' : L2.St) (k : Nat), σ'[6]? = some (some (.ref tb)) → σ'[k]? = some (some (.int (l : Int))) → K27.E K (tOp (rIxL K) (tVar 6) (tVar k)) σ' H9 (.list (blD n (T g'))) := fun σ' k h1 h2 => e_ev (ev_op (ev_var h1) (ev_var h2) (rv_ixL (sq_of (e69 _ _ hts)) (atI_nat p1))) (.lst (e69 _ _ p3) da_vb)
      refine b_appL1 (Ex.refl H9) (e69 _ _ hts) (ev_var rfl) ((l_call (ds := [.str o.w, .list (blD n (T g')), .list (blD n (T g')), .int (A.length : Nat)]) (K27.ea_cons (e_var rfl (.str o.w)) (K27.ea_cons (tl _ 8 rfl rfl) (K27.ea_cons (tl _ 10 rfl rfl) (K27.ea_cons (e_int (ev_is (ev_lenD (.inl (e_var rfl (h2.mono (e03.trans (e4.trans (e6.trans e69))))))) (by rw [List.length_map]))) K27.ea_nil)))) ⟨o.w, n, A.length, T g', T g', rfl, by omega, hn, rfl⟩).is (es := blD n (T (.un o g'))) (blD_congr fun p hp => ?_)) htz fun p ys H10 hp e10 hp10 r10 => fin p ys H10 _ _ _ _ (fresh_back e69 hp) (e69.trans e10) hp10 r10
      rw [← hT]
      exact rwt_un o g' p
    | bi o g' h' =>
      obtain ⟨l, m, hl, hm, rfl, hfl, hfm⟩ := hrow
      show tIfS _ _ _ _ [some v0, some v1, some v2, some v3, some (.ref r), some (.ref bl), some (.ref tb), some (.str o.w), some (.int (l : Int)), some (.int (m : Int)), o10, none, none, none] H6
      obtain ⟨p, p1, p2, p3⟩ := hrows l g' hl hfl
      obtain ⟨p', p1', p2', p3'⟩ := hrows m h' hm hfm
      refine b_no1 (Ex.refl H6) (by walk_at "ev") (by cases o <;> decide +kernel) fun H7 e7 => ?_
      refine b_no1 (Ex.refl H7) (by walk_at "ev") (by cases o <;> decide +kernel) fun H8 e8 => ?_
      have e68 := e7.trans e8
      refine b_asg (v := .int (m : Int)) (Ex.refl H8) (ev_if (et_test (ev_op (ev_var rfl) (ev_neg ev_c) (rv_eq rfl))) (fun z => absurd (V.int.inj (of_decide_eq_true z)) (by show ¬ ((m : Int) = -1); omega)) (fun _ => ev_var rfl)) fun H9 e9 => ?_
      have e69 := e68.trans e9
      have tl : ∀ (σ' : L2.St) (k : Nat), σ'[6]? = some (some (.ref tb)) → σ'[k]? = some (some (.int (l : Int))) → K27.E K (tOp (rIxL K) (tVar 6) (tVar k)) σ' H9 (.list (blD n (T g'))) := fun σ' k h1 h2 => e_ev (ev_op (ev_var h1) (ev_var h2) (rv_ixL (sq_of (e69 _ _ hts)) (atI_nat p1))) (.lst (e69 _ _ p3) da_vb)
      have tm : ∀ (σ' : L2.St) (k : Nat), σ'[6]? = some (some (.ref tb)) → σ'[k]? = some (some (.int (m : Int))) → K27.E K (tOp (rIxL K) (tVar 6) (tVar k)) σ' H9 (.list (blD n (T h'))) := fun σ' k h1 h2 => e_ev (ev_op (ev_var h1) (ev_var h2) (rv_ixL (sq_of (e69 _ _ hts)) (atI_nat p1'))) (.lst (e69 _ _ p3') da_vb)
      refine b_appL1 (Ex.refl H9) (e69 _ _ hts) (ev_var rfl) ((l_call (ds := [.str o.w, .list (blD n (T g')), .list (blD n (T h')), .int (A.length : Nat)]) (K27.ea_cons (e_var rfl (.str o.w)) (K27.ea_cons (tl _ 8 rfl rfl) (K27.ea_cons (tm _ 10 rfl rfl) (K27.ea_cons (e_int (ev_is (ev_lenD (.inl (e_var rfl (h2.mono (e03.trans (e4.trans (e6.trans e69))))))) (by rw [List.length_map]))) K27.ea_nil)))) ⟨o.w, n, A.length, T g', T h', rfl, by omega, hn, rfl⟩).is (es := blD n (T (.bi o g' h'))) (blD_congr fun p hp => ?_)) htz fun p ys H10 hp e10 hp10 r10 => fin p ys H10 _ _ _ _ (fresh_back e69 hp) (e69.trans e10) hp10 r10
      rw [← hT]
      exact rwt_bi o g' h' p
  · rintro σ' H6 ⟨⟨o7, o8, o9, o10, rfl⟩, e6, ts, hts, htl, hrows⟩
    obtain ⟨p, p1, p2, p3⟩ := hrows ix f (by omega) hix
    exact b_ret (Ex.refl H6) (e_ev (ev_op (ev_var rfl) (ev_neg ev_c) (rv_ixL (sq_of hts) (atI_last (by omega) p1))) (.lst p3 da_vb)) fun v H7 e7 => q v H7 ((e03.trans (e4.trans e6)).trans e7)
end
end K27

/-! K27: moved_on; lassoproof/lassos/words.py. -/
namespace K27
open PySem PySem.Spec PyProof.Rows L2 Evl
local macro_rules | `(tactic| walk_at "ev") => `(tactic| first
  | exact ev_c
  | exact ev_var rfl
  | (refine' et_test ?h; (case h => walk_at "ev"))
  | (refine' et_B ?h; (case h => walk_at "ev"))
  | (refine' et_not ?h; (case h => walk_at "ev"))
  | (refine' et_and ?a (fun _ => ?b); (case a => walk_at "ev"); (case b => walk_at "ev"))
  | (refine' et_or ?a (fun _ => ?b); (case a => walk_at "ev"); (case b => walk_at "ev"))
  | (refine' ev_op ?a ?b (rv_eq ?c); (case a => walk_at "ev"); (case b => walk_at "ev"); (case c => rfl))
  | (refine' ev_op ?a ?b rv_I0; (case a => walk_at "ev"); (case b => walk_at "ev"))
  | (refine' ev_inU ?a ?b ?c ?d; (case a => walk_at "ev"); (case b => (refine' eu_tup ?x ?y; (case x => walk_at "ev"); (case y => decide))); (case c => rfl); (case d => rfl))
  | (refine' ev_str (e_ixT ?a ?b ?c); (case a => walk_at "ed"); (case b => walk_at "ev"); (case c => first | exact at0 | exact at1 | exact at2))
  | (refine' ev_int (e_ixT ?a ?b ?c); (case a => walk_at "ed"); (case b => walk_at "ev"); (case c => first | exact at0 | exact at1 | exact at2))
  | exact Evl.ea_nil
  | (refine' Evl.ea_cons ?a ?b; (case a => walk_at "ev"); (case b => walk_at "ev")))
local macro_rules | `(tactic| walk_at "ed") => `(tactic| first
  | exact e_var rfl (by assumption)
  | exact e_var rfl (by constructor)
  | exact K27.ea_nil
  | (refine' K27.ea_cons ?a ?b; (case a => walk_at "ed"); (case b => walk_at "ed"))
  | (refine' e_tup ?a ?b; (case a => walk_at "ed"); (case b => (simp only [List.length_cons, List.length_nil, List.length_append]; omega)))
  | (refine' e_ixT ?a ?b ?c; (case a => walk_at "ed"); (case b => walk_at "ev"); (case c => first | exact at0 | exact at1 | exact at2))
  | (refine' e_ev ?a ?b; (case a => walk_at "ev"); (case b => first | exact .str _ | exact .int _ | exact .bl _ | assumption)))
theorem cut_from (ds : List PyData) (k : Nat) : cutD ds (some (k : Int)) none = ds.drop k := by
  unfold cutD
  rw [HT.sIx_nat, HT.sIx_none]
  by_cases h : k ≤ ds.length
  · rw [Nat.min_eq_left h]
    exact List.take_of_length_le (by rw [List.length_drop]; exact Nat.le_refl _)
  · rw [Nat.min_eq_right (by omega), List.drop_eq_nil_of_le (Nat.le_refl _), List.drop_eq_nil_of_le (by omega)] <;> simp
theorem cut_to (ds : List PyData) (k : Nat) : cutD ds none (some (k : Int)) = ds.take k := by
  unfold cutD
  rw [HT.sIx_nat, HT.sIx_none, Nat.sub_zero, List.drop_zero]
  by_cases h : k ≤ ds.length
  · rw [Nat.min_eq_left h]
  · rw [Nat.min_eq_right (by omega), List.take_of_length_le (Nat.le_refl _), List.take_of_length_le (by omega)]
theorem cut_mid (ds : List PyData) (k m : Nat) : cutD ds (some (k : Int)) (some (m : Int)) = (ds.take m).drop k := by
  unfold cutD
  rw [HT.sIx_nat, HT.sIx_nat]
  apply List.ext_getElem?
  intro i
  rw [List.getElem?_take, List.getElem?_drop, List.getElem?_drop, List.getElem?_take]
  by_cases h : i < min m ds.length - min k ds.length
  · rw [if_pos h, if_pos (by omega)]
    congr 1
    omega
  · rw [if_neg h]
    by_cases h2 : k + i < m
    · rw [if_pos h2]
      exact (List.getElem?_eq_none (by omega)).symm
    · rw [if_neg h2]
section
variable {P : Program} {w : World} {K : PySem.W.Frag} {mg : Str → Option Value} {base : Heap}
/-! ### moved_on -/
abbrev s_moved_on : Stmt := topS 41
abbrev N_moved_on : List Str := ["formula", "names", "state"]
theorem sc_moved_on : FnScope N_moved_on ["formula", "names", "state"] (defScope s_moved_on) := ⟨rfl, rfl, rfl, by decide +kernel, rfl, by decide +kernel, by decide +kernel⟩
def R_moved_on (N : List Str) : Rl := fun ds d => ∃ (f : Fm) (is : List Int), ds = [f.d, .list (N.map PyData.str), stD is] ∧ f.fine N ∧ f.dp ≤ 12 ∧ N.Nodup ∧ StOk N is ∧ d = (shr (moved (rOf N is) f)).d
theorem ok_moved_on {N : List Str} (Z_dict : mg "dict" = none) (Z_zip : mg "zip" = none) (G_ask_names : FnAt P w K mg base 18 "ask_names" ["formula", "names"] (spAsk K N)) (G_moved : FnAt P w K mg base 30 "moved" ["formula", "values"] (spR K (R_moved N 12)))
    (G_shrink : FnAt P w K mg base 28 "shrink" ["formula"] (spR K (R_shr N 24))) (D : Def K mg "moved_on" s_moved_on ["formula", "names", "state"]) : FnAt P w K mg base 31 "moved_on" ["formula", "names", "state"] (spR K (R_moved_on N)) := by
  refine D.ok sc_moved_on (fun ds d ⟨f, is, h, _⟩ => by rw [h] <;> rfl) fun f0 cdv A outer s H vs Q E ds d hr hv hR q => ?_
  obtain ⟨f, is, rfl, hf, hd, hN, hst, rfl⟩ := hR
  obtain ⟨v0, v1, v2, rfl, h0, h1, h2⟩ := hv.i3
  refine ⟨_, (pss_cons (ps_expr (pe_callX G_ask_names hr (pa_cons (pv 0) (pa_cons (pv 1) pa_nil))))
      (pss_one (ps_ret (pe_callX G_shrink hr (pa_cons (pe_callX G_moved hr (pa_cons (pv 0) (pa_cons (pe_dictZ (by rfl) Z_dict (by rfl) Z_zip (pa_cons (pv 1) (pa_cons (pv 2) pa_nil))) pa_nil))) pa_nil))))), ?_⟩
  try dsimp only [cxOf]
  refine b_drop (Ex.refl H) (ev_ask (K27.ea_cons (e_var rfl h0) (K27.ea_cons (e_var rfl h1) K27.ea_nil)) hf hd) fun H1 e1 => ?_
  have hm := moved_dp (rOf N is) f
  exact b_ret e1 (e_call (ds := [(moved (rOf N is) f).d]) (K27.ea_cons (e_call (ds := [f.d, envD (N.zip is)]) (K27.ea_cons (e_var rfl h0) (K27.ea_cons (e_dictZ (K27.ea_cons (e_var rfl h1) (K27.ea_cons (e_var rfl h2) K27.ea_nil)) hN hst.1.symm) K27.ea_nil)) ⟨f, _, rOf N is, rfl, hf, hd, envOf hst, rfl⟩) K27.ea_nil) ⟨moved (rOf N is) f, rfl, moved_fine _ hf, by omega, rfl⟩) q
/-! ### state_at, suffix -/
abbrev s_state_at : Stmt := topS 43
abbrev N_state_at : List Str := ["stem", "loop", "place"]
theorem sc_state_at : FnScope N_state_at ["stem", "loop", "place"] (defScope s_state_at) := ⟨rfl, rfl, rfl, by decide +kernel, rfl, by decide +kernel, by decide +kernel⟩
def R_state_at : Rl := fun ds d => ∃ (A B : List PyData) (k : Nat), ds = [.list A, .list B, .int (k : Nat)] ∧ (A ++ B)[k]? = some d
theorem ok_state_at (Z_len : mg "len" = none) (D : Def K mg "state_at" s_state_at ["stem", "loop", "place"]) : FnAt P w K mg base 1 "state_at" ["stem", "loop", "place"] (spR K R_state_at) := by
  refine D.ok sc_state_at (fun ds d ⟨A, B, k, h, _⟩ => by rw [h] <;> rfl) fun f0 cdv A0 outer s H vs Q E ds d hr hv hR q => ?_
  obtain ⟨A, B, k, rfl, hk⟩ := hR
  obtain ⟨v0, v1, v2, rfl, h0, h1, h2⟩ := hv.i3
  obtain rfl := h2.int_inv
  refine ⟨_, (pss_cons (ps_if (pt_cmpR op_lt (pv 2) (pe_callB call_lenS (by rfl) Z_len PySem.boot_len (pa_cons (pv 0) pa_nil)) (nomark _)) (pss_one (ps_ret (pe_ix ix_list (pv 0) (pv 2) (fun _ _ => rfl)))) pss_nil)
      (pss_one (ps_ret (pe_ix ix_list (pv 1) (pe_op op_mod (pe_op op_sub (pv 2) (pe_callB call_lenS (by rfl) Z_len PySem.boot_len (pa_cons (pv 0) pa_nil))) (pe_callB call_lenS (by rfl) Z_len PySem.boot_len (pa_cons (pv 1) pa_nil))) (fun _ _ => rfl))))), ?_⟩
  try dsimp only [cxOf]
  have hkl := (List.getElem?_eq_some_iff.mp hk).1
  rw [List.length_append] at hkl
  by_cases hA : k < A.length
  · refine b_yes (Ex.refl H) (et_test (ev_op (ev_var rfl) (ev_lenD (.inl (e_var rfl h0))) rv_I0)) (by simp; omega) fun H1 e1 => ?_
    rw [List.getElem?_append_left hA] at hk
    exact b_ret e1 (e_ixL (e_var rfl h0) (ev_var rfl) (atI_nat hk)) q
  · refine b_skip (Ex.refl H) (et_test (ev_op (ev_var rfl) (ev_lenD (.inl (e_var rfl h0))) rv_I0)) (by simp; omega) fun H1 e1 => ?_
    rw [List.getElem?_append_right (by omega)] at hk
    have em : (((k : Nat) : Int) - (A.length : Int)) % (B.length : Int) = ((k - A.length : Nat) : Int) := by
      rw [Int.emod_eq_of_lt (by omega) (by omega)]
      omega
    exact b_ret e1 (e_ixL (e_var rfl h1) (ev_is (ev_op (ev_op (ev_var rfl) (ev_lenD (.inl (e_var rfl h0))) rv_I0) (ev_lenD (.inl (e_var rfl h1))) (rv_I (by omega))) (congrArg V.int em)) (atI_nat hk)) q
abbrev s_suffix : Stmt := topS 44
abbrev N_suffix : List Str := ["stem", "loop", "place", "turn"]
theorem sc_suffix : FnScope N_suffix ["stem", "loop", "place"] (defScope s_suffix) := ⟨rfl, rfl, rfl, by decide +kernel, rfl, by decide +kernel, by decide +kernel⟩
def R_suffix : Rl := fun ds d => ∃ (A B : List PyData) (k : Nat), ds = [.list A, .list B, .int (k : Nat)] ∧ 0 < B.length ∧ B.length ≤ 1000 ∧ d = if k ≤ A.length then .tuple [.list (A.drop k), .list B] else .tuple [.list [], .list (B.drop ((k - A.length) % B.length) ++ B.take ((k - A.length) % B.length))]
theorem ok_suffix (Z_len : mg "len" = none) (Z_list : mg "list" = none) (D : Def K mg "suffix" s_suffix ["stem", "loop", "place"]) : FnAt P w K mg base 1 "suffix" ["stem", "loop", "place"] (spR K R_suffix) := by
  refine D.ok sc_suffix (fun ds d ⟨A, B, k, h, _⟩ => by rw [h] <;> rfl) fun f0 cdv A0 outer s H vs Q E ds d hr hv hR q => ?_
  obtain ⟨A, B, k, rfl, hB, hBl, rfl⟩ := hR
  obtain ⟨v0, v1, v2, rfl, h0, h1, h2⟩ := hv.i3
  obtain rfl := h2.int_inv
  refine ⟨_, (pss_cons (ps_if (pt_cmpR op_le (pv 2) (pe_callB call_lenS (by rfl) Z_len PySem.boot_len (pa_cons (pv 0) pa_nil)) (nomark _)) (pss_one (ps_ret (pe_tup (pa_cons (pe_slice sl_list (pv 0) (po_some (pv 2)) po_none) (pa_cons (pe_callTy call_listS (by rfl) Z_list bt_list (pa_cons (pv 1) pa_nil)) pa_nil))))) pss_nil)
      (pss_cons (ps_set (i := 3) sc_suffix.nd rfl (by first | exact Or.inl rfl | exact Or.inr rfl) (pe_op op_mod (pe_op op_sub (pv 2) (pe_callB call_lenS (by rfl) Z_len PySem.boot_len (pa_cons (pv 0) pa_nil))) (pe_callB call_lenS (by rfl) Z_len PySem.boot_len (pa_cons (pv 1) pa_nil))))
      (pss_one (ps_ret (pe_tup (pa_cons (pe_lst pa_nil) (pa_cons (pe_op op_cat (pe_slice sl_list (pv 1) (po_some (pv 3)) po_none) (pe_slice sl_list (pv 1) po_none (po_some (pv 3)))) pa_nil))))))), ?_⟩
  try dsimp only [cxOf]
  by_cases hA : k ≤ A.length
  · rw [if_pos hA] at q
    refine b_yes (Ex.refl H) (et_test (ev_op (ev_var rfl) (ev_lenD (.inl (e_var rfl h0))) rv_I0)) (by simp; omega) fun H1 e1 => ?_
    exact b_ret e1 (e_tup (K27.ea_cons (e_is (e_slL (e_var rfl h0) (eo_some (ev_var rfl)) eo_none) (by rw [cut_from])) (K27.ea_cons (e_listD (e_var rfl h1)) K27.ea_nil)) (by simp)) q
  · rw [if_neg hA] at q
    refine b_skip (Ex.refl H) (et_test (ev_op (ev_var rfl) (ev_lenD (.inl (e_var rfl h0))) rv_I0)) (by simp; omega) fun H1 e1 => ?_
    have em : (((k : Nat) : Int) - (A.length : Int)) % (B.length : Int) = (((k - A.length) % B.length : Nat) : Int) := by
      rw [show ((k : Nat) : Int) - (A.length : Int) = ((k - A.length : Nat) : Int) by omega] <;> rfl
    refine b_asg (v := .int (((k - A.length) % B.length : Nat) : Int)) e1 (ev_is (ev_op (ev_op (ev_var rfl) (ev_lenD (.inl (e_var rfl h0))) rv_I0) (ev_lenD (.inl (e_var rfl h1))) (rv_I (by omega))) (congrArg V.int em)) fun H2 e2 => ?_
    refine b_ret e2 (e_tup (K27.ea_cons (e_lst K27.ea_nil (by simp)) (K27.ea_cons (e_is (e_cat (e_slL (e_var rfl h1) (eo_some (ev_var rfl)) eo_none) (e_slL (e_var rfl h1) eo_none (eo_some (ev_var rfl))) ?_) (by rw [cut_from, cut_to])) K27.ea_nil)) (by simp)) q
    rw [cut_from, cut_to, List.length_drop, List.length_take]
    omega
end
end K27

/-! K27: "0" * k, k below three. -/
namespace K27
open PySem PySem.Spec PyProof.Rows L2 Evl
def zs : Nat → Str
  | 0 => ""
  | 1 => "0"
  | _ => "00"
def rRepS : R2 := fun x y H Q => ∃ (n : Nat), x = .str "0" ∧ y = .int (n : Int) ∧ n ≤ 2 ∧ Q (.str (zs n)) H
theorem op_repS {X : Cx} : OpR X (binaryOp .Mult) rRepS := by
  intro pins s σ H x y v u Q I rx ry h
  obtain ⟨n, rfl, rfl, hn, q⟩ := h
  obtain ⟨t, rfl⟩ := rx
  obtain ⟨t', rfl⟩ := ry
  rcases (by omega : n = 0 ∨ n = 1 ∨ n = 2) with rfl | rfl | rfl
  · refine PySem.P.mul_str (by decide) (fun h => absurd (by decide) h) (fun h => absurd (by decide) h) ?_
    exact ⟨by decide, .str "", H, I.tok _, ⟨_, rfl⟩, q⟩
  · refine PySem.P.mul_str (by decide) (fun _ h => absurd h (by decide)) (fun _ h => absurd h (by decide)) ?_
    exact ⟨.str "0", H, I.kept (t' := s.toks) fun _ _ z => z, ⟨_, rfl⟩, q⟩
  · refine PySem.P.mul_str (by decide) (fun _ _ => by decide +kernel) (fun _ _ => by decide +kernel) ?_
    exact ⟨by decide +kernel, .str "00", H, I.tok _, ⟨_, rfl⟩, q⟩
theorem ev_rep {σ : L2.St} {H : Hp} {ta tb : TE} {n : Nat} (ha : Ev ta σ H (.str "0")) (hb : Ev tb σ H (.int (n : Int))) (hn : n ≤ 2) : Ev (tOp rRepS ta tb) σ H (.str (zs n)) := fun H1 e Q q =>
  ha H1 e _ fun H2 e2 => hb H2 (e.trans e2) _ fun H3 e3 => ⟨n, rfl, rfl, hn, q H3 (e2.trans e3)⟩
end K27

/-! K27: the law's drawing. -/
namespace K27
open PySem PySem.Spec PyProof.Rows L2 Evl
local macro_rules | `(tactic| walk_at "ev") => `(tactic| first
  | exact ev_c
  | exact ev_var rfl
  | (refine' et_test ?h; (case h => walk_at "ev"))
  | (refine' et_B ?h; (case h => walk_at "ev"))
  | (refine' et_not ?h; (case h => walk_at "ev"))
  | (refine' et_and ?a (fun _ => ?b); (case a => walk_at "ev"); (case b => walk_at "ev"))
  | (refine' et_or ?a (fun _ => ?b); (case a => walk_at "ev"); (case b => walk_at "ev"))
  | (refine' ev_op ?a ?b (rv_eq ?c); (case a => walk_at "ev"); (case b => walk_at "ev"); (case c => rfl))
  | (refine' ev_op ?a ?b rv_I0; (case a => walk_at "ev"); (case b => walk_at "ev"))
  | (refine' ev_inU ?a ?b ?c ?d; (case a => walk_at "ev"); (case b => (refine' eu_tup ?x ?y; (case x => walk_at "ev"); (case y => decide))); (case c => rfl); (case d => rfl))
  | (refine' ev_str (e_ixT ?a ?b ?c); (case a => walk_at "ed"); (case b => walk_at "ev"); (case c => first | exact at0 | exact at1 | exact at2))
  | (refine' ev_int (e_ixT ?a ?b ?c); (case a => walk_at "ed"); (case b => walk_at "ev"); (case c => first | exact at0 | exact at1 | exact at2))
  | exact Evl.ea_nil
  | (refine' Evl.ea_cons ?a ?b; (case a => walk_at "ev"); (case b => walk_at "ev")))
local macro_rules | `(tactic| walk_at "ed") => `(tactic| first
  | exact e_var rfl (by assumption)
  | exact e_var rfl (by constructor)
  | exact K27.ea_nil
  | (refine' K27.ea_cons ?a ?b; (case a => walk_at "ed"); (case b => walk_at "ed"))
  | (refine' e_tup ?a ?b; (case a => walk_at "ed"); (case b => (simp only [List.length_cons, List.length_nil, List.length_append]; omega)))
  | (refine' e_ixT ?a ?b ?c; (case a => walk_at "ed"); (case b => walk_at "ev"); (case c => first | exact at0 | exact at1 | exact at2))
  | (refine' e_ev ?a ?b; (case a => walk_at "ev"); (case b => first | exact .str _ | exact .int _ | exact .bl _ | assumption)))
def cellF (ns : List Int) (k : Nat) : Int := ns.getD k 0
def rst0 (c : Int) : Int := if 1000000000000000000 ≤ c then c - 1000000000000000000 else 0
def rstF (c : Int) : Nat → Int
  | 0 => rst0 c
  | k + 1 => if 0 < rstF c k then rstF c k / 1000 else rstF c k
def mixF (ns : List Int) (a k : Nat) : Int := (cellF ns a * 48271 + cellF ns ((k * 7 + a) % 63) * 16807 + ((k : Int) + 1) * 69621) % 2147483647
def drawF (ns : List Int) (a k : Nat) : Int := if 0 < rstF (cellF ns a) k then rstF (cellF ns a) k % 1000 else (mixF ns a k * mixF ns a k + (k : Int) * 40692) % 2147483399 / 64 % 1000
def draws (ns : List Int) (a c : Nat) : List Int := (List.range c).map (drawF ns a)
theorem draws_succ (ns : List Int) (a c : Nat) : draws ns a (c + 1) = draws ns a c ++ [drawF ns a c] := by
  unfold draws
  rw [List.range_succ, List.map_append] <;> rfl
theorem draws_len (ns : List Int) (a c : Nat) : (draws ns a c).length = c := by unfold draws; simp
theorem drawF_bd (ns : List Int) (a k : Nat) : 0 ≤ drawF ns a k ∧ drawF ns a k < 1000 := by
  unfold drawF
  split <;> (constructor <;> omega)
theorem draws_bd {ns : List Int} {a c : Nat} {x : Int} (h : x ∈ draws ns a c) : 0 ≤ x ∧ x < 1000 := by
  unfold draws at h
  obtain ⟨k, _, rfl⟩ := List.mem_map.mp h
  exact drawF_bd ns a k
section
variable {P : Program} {w : World} {K : PySem.W.Frag} {mg : Str → Option Value} {base : Heap}
abbrev s__law_cell : Stmt := topS 46
abbrev N__law_cell : List Str := ["_law_script", "_law_k"]
theorem sc__law_cell : FnScope N__law_cell ["_law_script", "_law_k"] (defScope s__law_cell) := ⟨rfl, rfl, rfl, by decide +kernel, rfl, by decide +kernel, by decide +kernel⟩
def R_cell : Rl := fun ds d => ∃ (ns : List Int) (k : Nat), ds = [scrD ns, .int (k : Nat)] ∧ d = .int (cellF ns k)
theorem ok_cell (Z_len : mg "len" = none) (D : Def K mg "_law_cell" s__law_cell ["_law_script", "_law_k"]) : FnAt P w K mg base 1 "_law_cell" ["_law_script", "_law_k"] (spR K R_cell) := by
  refine D.ok sc__law_cell (fun ds d ⟨ns, k, h, _⟩ => by rw [h] <;> rfl) fun f0 cdv A0 outer s H vs Q E ds d hr hv hR q => ?_
  obtain ⟨ns, k, rfl, rfl⟩ := hR
  obtain ⟨v0, v1, rfl, h0, h1⟩ := hv.i2
  obtain rfl := h1.int_inv
  obtain ⟨a, rfl, ha⟩ := h0.scr_inv
  refine ⟨_, (pss_cons (ps_if (pt_cmpR op_lt (pv 1) (pe_callB call_lenS (by rfl) Z_len PySem.boot_len (pa_cons (pv 0) pa_nil)) (nomark _)) (pss_one (ps_ret (pe_ix ix_list (pv 0) (pv 1) (fun _ _ => rfl)))) pss_nil)
      (pss_one (ps_ret pe_int))), ?_⟩
  try dsimp only [cxOf]
  by_cases hk : k < ns.length
  · refine b_yes (Ex.refl H) (et_test (ev_op (ev_var rfl) (ev_len (ev_var rfl) ha) rv_I0)) (by simp; omega) fun H1 e1 => ?_
    refine b_ret e1 (e_int (ev_op (ev_var rfl) (ev_var rfl) (rv_ixL ha (atI_nat (j := k) ?_)))) q
    unfold cellF
    rw [List.getElem?_map, List.getElem?_eq_getElem hk, List.getD_eq_getElem?_getD, List.getElem?_eq_getElem hk] <;> rfl
  · refine b_skip (Ex.refl H) (et_test (ev_op (ev_var rfl) (ev_len (ev_var rfl) ha) rv_I0)) (by simp; omega) fun H1 e1 => ?_
    have e : cellF ns k = 0 := by
      unfold cellF
      rw [List.getD_eq_getElem?_getD, List.getElem?_eq_none (by omega)] <;> rfl
    rw [e] at q
    exact b_ret e1 (e_int ev_c) q
abbrev s__law_draws : Stmt := topS 47
abbrev N__law_draws : List Str := ["_law_script", "_law_first", "_law_count", "_law_cell_here", "_law_rest", "_law_draws_here", "_law_k", "_law_other", "_law_mixed"]
theorem sc__law_draws : FnScope N__law_draws ["_law_script", "_law_first", "_law_count"] (defScope s__law_draws) := ⟨rfl, rfl, rfl, by decide +kernel, rfl, by decide +kernel, by decide +kernel⟩
def R_draws : List PyData → List PyData → Prop := fun ds es => ∃ (ns : List Int) (a c : Nat), ds = [scrD ns, .int (a : Nat), .int (c : Nat)] ∧ c ≤ 1000 ∧ es = (draws ns a c).map PyData.int
theorem ok_draws (Z_range : mg "range" = none) (Z_int : mg "int" = none) (G__law_cell : FnAt P w K mg base 1 "_law_cell" ["_law_script", "_law_k"] (spR K R_cell)) (D : Def K mg "_law_draws" s__law_draws ["_law_script", "_law_first", "_law_count"]) :
    FnAt P w K mg base 2 "_law_draws" ["_law_script", "_law_first", "_law_count"] (spN K R_draws) := by
  refine D.okN sc__law_draws (fun ds d ⟨ns, a, c, h, _⟩ => by rw [h] <;> rfl) fun f0 cdv A0 outer s H vs Q E ds es hr hv hR q => ?_
  obtain ⟨ns, a, c, rfl, hc, rfl⟩ := hR
  obtain ⟨v0, v1, v2, rfl, h0, h1, h2⟩ := hv.i3
  obtain rfl := h1.int_inv
  obtain rfl := h2.int_inv
  refine ⟨_, (pss_cons (ps_set (i := 3) sc__law_draws.nd rfl (by first | exact Or.inl rfl | exact Or.inr rfl) (pe_callX G__law_cell hr (pa_cons (pv 0) (pa_cons (pv 1) pa_nil))))
      (pss_cons (ps_set (i := 4) sc__law_draws.nd rfl (by first | exact Or.inl rfl | exact Or.inr rfl) pe_int)
      (pss_cons (ps_if (pt_cmpR op_ge (pv 3) (pe_op op_pow pe_int pe_int) (nomark _)) (pss_one (ps_set (i := 4) sc__law_draws.nd rfl (by first | exact Or.inl rfl | exact Or.inr rfl) (pe_op op_sub (pv 3) (pe_op op_pow pe_int pe_int)))) pss_nil)
      (pss_cons (ps_set (i := 5) sc__law_draws.nd rfl (by first | exact Or.inl rfl | exact Or.inr rfl) (pe_lst pa_nil))
      (pss_cons (ps_for PassesOwn.never rfl (pi_range1 (by rfl) Z_range (pa_cons (pv 2) pa_nil)) (pg_name (i := 6) sc__law_draws.nd rfl (by first | exact Or.inl rfl | exact Or.inr rfl)) (pss_one (ps_if (pt_cmpR op_gt (pv 4) pe_int (nomark _)) (pss_cons (ps_expr (pe_bm PySem.F.plainAttrs_list PySem.F.slot_list_append PySem.F.type_list_append mt_append (pv 5) (pa_cons (pe_op op_mod (pe_callTy call_intS (by rfl) Z_int bt_int (pa_cons (pv 4) pa_nil)) pe_int) pa_nil)))
      (pss_one (ps_set (i := 4) sc__law_draws.nd rfl (by first | exact Or.inl rfl | exact Or.inr rfl) (pe_op op_fdiv (pv 4) pe_int)))) (pss_cons (ps_set (i := 7) sc__law_draws.nd rfl (by first | exact Or.inl rfl | exact Or.inr rfl) (pe_callX G__law_cell hr (pa_cons (pv 0) (pa_cons (pe_op op_mod (pe_callTy call_intS (by rfl) Z_int bt_int (pa_cons (pe_op op_add (pe_op op_mul (pv 6) pe_int) (pv 1)) pa_nil)) pe_int) pa_nil))))
      (pss_cons (ps_set (i := 8) sc__law_draws.nd rfl (by first | exact Or.inl rfl | exact Or.inr rfl) (pe_op op_mod (pe_callTy call_intS (by rfl) Z_int bt_int (pa_cons (pe_op op_add (pe_op op_add (pe_op op_mul (pv 3) pe_int) (pe_op op_mul (pv 7) pe_int)) (pe_op op_mul (pe_op op_add (pv 6) pe_int) pe_int)) pa_nil)) pe_int))
      (pss_one (ps_expr (pe_bm PySem.F.plainAttrs_list PySem.F.slot_list_append PySem.F.type_list_append mt_append (pv 5) (pa_cons (pe_op op_mod (pe_op op_fdiv (pe_op op_mod (pe_callTy call_intS (by rfl) Z_int bt_int (pa_cons (pe_op op_add (pe_op op_mul (pv 8) (pv 8)) (pe_op op_mul (pv 6) pe_int)) pa_nil)) pe_int) pe_int) pe_int) pa_nil)))))))))
      (pss_one (ps_ret (pv 5)))))))), ?_⟩
  try dsimp only [cxOf]
  refine b_asg (Ex.refl H) (ev_int (e_call (ds := [scrD ns, .int (a : Nat)]) (K27.ea_cons (e_var rfl h0) (K27.ea_cons (e_var rfl (.int _)) K27.ea_nil)) ⟨ns, a, rfl, rfl⟩)) fun H1 e1 => ?_
  refine b_asg e1 ev_c fun H2 e2 => ?_
  show tSeq _ _ _ [some v0, some (.int (a : Nat)), some (.int (c : Nat)), some (.int (cellF ns a)), some (.int 0), none, none, none, none] H2
  have pw : Ev (tOp (rI CPow fun i j => .int (i ^ j.toNat)) (tC (.int 10)) (tC (.int 18))) [some v0, some (.int (a : Nat)), some (.int (c : Nat)), some (.int (cellF ns a)), some (.int 0), none, none, none, none] H2 (.int 1000000000000000000) := ev_is (ev_op ev_c ev_c (rv_I (by unfold CPow; decide))) (by decide +kernel)
  refine q_ifAsg (v := .int (rst0 (cellF ns a))) (et_test (ev_op (ev_var rfl) pw rv_I0)) (fun hb => ?_) (fun hb => ?_) fun H3 e3 => ?_
  · refine ev_is (ev_op (ev_var rfl) pw rv_I0) (congrArg V.int ?_)
    have hb' := of_decide_eq_true hb
    unfold rst0
    rw [if_pos hb']
  · have hb' := of_decide_eq_false hb
    have e : rst0 (cellF ns a) = 0 := if_neg hb'
    rw [e] <;> rfl
  show tSeq _ _ _ [some v0, some (.int (a : Nat)), some (.int (c : Nat)), some (.int (cellF ns a)), some (.int (rst0 (cellF ns a))), none, none, none, none] H3
  refine b_asgL (e2.trans e3) (l_lst (K := K) K27.ea_nil (by simp)) fun l xs0 H4 hl e4 hl4 r4 => ?_
  cases r4
  have hlf : H l = none := fresh_back (e2.trans e3) hl
  show tSeq _ _ _ [some v0, some (.int (a : Nat)), some (.int (c : Nat)), some (.int (cellF ns a)), some (.int (rst0 (cellF ns a))), some (.ref l), none, none, none] H4
  refine q_forR1 (n := (c : Int)) (Evl.ea_cons (ev_var rfl) Evl.ea_nil) (by omega) (fun k σ' H' => (∃ o1 o2 o3, σ' = [some v0, some (.int (a : Nat)), some (.int (c : Nat)), some (.int (cellF ns a)), some (.int (rstF (cellF ns a) k)), some (.ref l), o1, o2, o3]) ∧ Ex H H' ∧ H' l = some (.lst ((draws ns a k).map V.int))) (fun H5 e5 => ⟨⟨none, none, none, rfl⟩, e4.trans e5, e5 _ _ hl4⟩) ?_ ?_
  · rintro k σ' H5 hk ⟨⟨o1, o2, o3, rfl⟩, e5, hl5⟩
    show tIfS _ _ _ _ [some v0, some (.int (a : Nat)), some (.int (c : Nat)), some (.int (cellF ns a)), some (.int (rstF (cellF ns a) k)), some (.ref l), some (.int (k : Int)), o2, o3] H5
    have hsz : ((draws ns a k).map V.int).length < 100000 := by rw [List.length_map, draws_len]; omega
    refine b_if1 (Ex.refl H5) (et_test (ev_op (ev_var rfl) ev_c rv_I0)) (fun hb H6 e6 => ?_) fun hb H6 e6 => ?_
    · have hb' : 0 < rstF (cellF ns a) k := of_decide_eq_true hb
      refine b_app (e6 _ _ hl5) (ev_var rfl) (e_int (ev_op (ev_int1 (ev_var rfl)) ev_c (rv_I (by decide)))) hsz fun v H7 e7 r7 => ?_
      obtain rfl := r7.int_inv
      refine b_asg1 (v := .int (rstF (cellF ns a) (k + 1))) (Ex.refl _) (ev_is (ev_op (ev_var rfl) ev_c (rv_I (by unfold CDiv; decide))) (congrArg V.int (if_pos hb').symm)) fun H8 e8 => ?_
      refine ⟨⟨_, _, _, rfl⟩, (Ex.mut ((e5.trans e6).trans e7) hlf).trans e8, ?_⟩
      rw [e8 _ _ upd_same, draws_succ, List.map_append]
      unfold drawF
      rw [if_pos hb'] <;> rfl
    · have hb' : ¬ 0 < rstF (cellF ns a) k := of_decide_eq_false hb
      refine b_asg (v := .int (cellF ns ((k * 7 + a) % 63))) (Ex.refl H6) (ev_int (e_call (ds := [scrD ns, .int (((k * 7 + a) % 63 : Nat) : Int)]) (K27.ea_cons (e_var rfl (h0.mono (e5.trans e6))) (K27.ea_cons (e_int (ev_is (ev_op (ev_int1 (ev_op (ev_op (ev_var rfl) ev_c (rv_I (.inr (by decide)))) (ev_var rfl) rv_I0)) ev_c (rv_I (by decide))) (congrArg V.int ?_))) K27.ea_nil)) ⟨ns, _, rfl, rfl⟩)) fun H7 e7 => ?_
      · omega
      have hm : 0 ≤ mixF ns a k ∧ mixF ns a k < 2147483647 := by unfold mixF; omega
      refine b_asg (v := .int (mixF ns a k)) (Ex.refl H7) (ev_op (ev_int1 (ev_op (ev_op (ev_op (ev_var rfl) ev_c (rv_I (.inr (by decide)))) (ev_op (ev_var rfl) ev_c (rv_I (.inr (by decide)))) rv_I0) (ev_op (ev_op (ev_var rfl) ev_c rv_I0) ev_c (rv_I (.inr (by decide)))) rv_I0)) ev_c (rv_I (by decide))) fun H8 e8 => ?_
      refine b_app1 ((e6.trans (e7.trans e8)) _ _ hl5) (ev_var rfl) (e_int (ev_op (ev_op (ev_op (ev_int1 (ev_op (ev_op (ev_var rfl) (ev_var rfl) (rv_I (.inl ⟨by omega, by omega⟩))) (ev_op (ev_var rfl) ev_c (rv_I (.inr (by decide)))) rv_I0)) ev_c (rv_I (by decide))) ev_c (rv_I (by unfold CDiv; decide))) ev_c (rv_I (by decide)))) hsz fun v H9 e9 r9 => ?_
      obtain rfl := r9.int_inv
      refine ⟨⟨some (.int (k : Int)), some (.int (cellF ns ((k * 7 + a) % 63))), some (.int (mixF ns a k)), ?_⟩, Ex.mut ((e5.trans e6).trans ((e7.trans e8).trans e9)) hlf, ?_⟩
      · have e : rstF (cellF ns a) (k + 1) = rstF (cellF ns a) k := if_neg hb'
        rw [e] <;> rfl
      · rw [upd_same, draws_succ, List.map_append]
        have e : drawF ns a k = (mixF ns a k * mixF ns a k + (k : Int) * 40692) % 2147483399 / 64 % 1000 := if_neg hb'
        rw [e] <;> rfl
  · rintro σ' H5 ⟨⟨o1, o2, o3, rfl⟩, e5, hl5⟩
    exact ⟨_, rfl, q l _ H5 hlf e5 hl5 (DaAll.ofInts _)⟩
end
end K27

/-! K27: the law's names, terms, comparisons, lengths. -/
namespace K27
open PySem PySem.Spec PyProof.Rows L2 Evl
local macro_rules | `(tactic| walk_at "ev") => `(tactic| first
  | exact ev_c
  | exact ev_var rfl
  | (refine' et_test ?h; (case h => walk_at "ev"))
  | (refine' et_B ?h; (case h => walk_at "ev"))
  | (refine' et_not ?h; (case h => walk_at "ev"))
  | (refine' et_and ?a (fun _ => ?b); (case a => walk_at "ev"); (case b => walk_at "ev"))
  | (refine' et_or ?a (fun _ => ?b); (case a => walk_at "ev"); (case b => walk_at "ev"))
  | (refine' ev_op ?a ?b (rv_eq ?c); (case a => walk_at "ev"); (case b => walk_at "ev"); (case c => rfl))
  | (refine' ev_op ?a ?b rv_I0; (case a => walk_at "ev"); (case b => walk_at "ev"))
  | (refine' ev_inU ?a ?b ?c ?d; (case a => walk_at "ev"); (case b => (refine' eu_tup ?x ?y; (case x => walk_at "ev"); (case y => decide))); (case c => rfl); (case d => rfl))
  | (refine' ev_str (e_ixT ?a ?b ?c); (case a => walk_at "ed"); (case b => walk_at "ev"); (case c => first | exact at0 | exact at1 | exact at2))
  | (refine' ev_int (e_ixT ?a ?b ?c); (case a => walk_at "ed"); (case b => walk_at "ev"); (case c => first | exact at0 | exact at1 | exact at2))
  | exact Evl.ea_nil
  | (refine' Evl.ea_cons ?a ?b; (case a => walk_at "ev"); (case b => walk_at "ev")))
local macro_rules | `(tactic| walk_at "ed") => `(tactic| first
  | exact e_var rfl (by assumption)
  | exact e_var rfl (by constructor)
  | exact K27.ea_nil
  | (refine' K27.ea_cons ?a ?b; (case a => walk_at "ed"); (case b => walk_at "ed"))
  | (refine' e_tup ?a ?b; (case a => walk_at "ed"); (case b => (simp only [List.length_cons, List.length_nil, List.length_append]; omega)))
  | (refine' e_ixT ?a ?b ?c; (case a => walk_at "ed"); (case b => walk_at "ev"); (case c => first | exact at0 | exact at1 | exact at2))
  | (refine' e_ev ?a ?b; (case a => walk_at "ev"); (case b => first | exact .str _ | exact .int _ | exact .bl _ | assumption)))
def chF (s : Str) (k : Nat) : Str := ⟨#[s.cps.toList.getD k 0]⟩
def alph : Str := "abcdefghijklmnopqrstuvwxyz"
def nmF (i st k : Nat) : Str := match st with
  | 0 => chF alph i ++ zs k
  | 1 => chF alph i ++ "_" ++ chF "zyxw" k
  | 2 => chF "dcba" k ++ chF alph i ++ "7"
  | _ => chF alph i ++ "Q" ++ chF "DBCA" k
def namesF (i st m : Nat) : List Str := (List.range m).map (nmF i st)
theorem namesF_succ (i st m : Nat) : namesF i st (m + 1) = namesF i st m ++ [nmF i st m] := by
  unfold namesF
  rw [List.range_succ, List.map_append] <;> rfl
theorem namesF_len (i st m : Nat) : (namesF i st m).length = m := by unfold namesF; simp
theorem names_all : ∀ i, i < 26 → ∀ st, st < 4 → (namesF i st 3).Nodup ∧ (namesF i st 3).all (fun x => PyData.canLay0 (.str x)) = true := by decide +kernel
theorem namesF_sub {i st m : Nat} (hm : m ≤ 3) : List.Sublist (namesF i st m) (namesF i st 3) := by
  unfold namesF
  refine List.Sublist.map _ ?_
  rcases (by omega : m = 0 ∨ m = 1 ∨ m = 2 ∨ m = 3) with rfl | rfl | rfl | rfl <;> decide
theorem namesF_ok {i st m : Nat} (hi : i < 26) (hs : st < 4) (hm : m ≤ 3) : (namesF i st m).Nodup ∧ NamesOk (namesF i st m) := by
  obtain ⟨h1, h2⟩ := names_all i hi st hs
  have hsub := namesF_sub (i := i) (st := st) hm
  exact ⟨hsub.nodup h1, fun x hx => List.all_eq_true.mp h2 x (hsub.subset hx)⟩
theorem ch_at {s : Str} {k : Nat} (h : k < s.cps.toList.length) : atI s.cps.toList (k : Int) = some (s.cps.toList.getD k 0) := atI_nat (by rw [List.getElem?_eq_getElem h, List.getD_eq_getElem?_getD, List.getElem?_eq_getElem h] <;> rfl)
section
variable {P : Program} {w : World} {K : PySem.W.Frag} {mg : Str → Option Value} {base : Heap}
theorem ev_ch {σ : L2.St} {H : Hp} {ta tb : TE} {s : Str} {k : Nat} (ha : Ev ta σ H (.str s)) (hb : Ev tb σ H (.int (k : Int))) (hs : s.length ≤ 100000) (hk : k < s.cps.toList.length) : Ev (tOp rIxS ta tb) σ H (.str (chF s k)) := ev_op ha hb (rv_ixS hs (ch_at hk))
abbrev s__law_names : Stmt := topS 48
abbrev N__law_names : List Str := ["_law_cell_here", "_law_many", "_law_letter", "_law_style", "_law_names_here", "_law_k"]
theorem sc__law_names : FnScope N__law_names ["_law_cell_here", "_law_many"] (defScope s__law_names) := ⟨rfl, rfl, rfl, by decide +kernel, rfl, by decide +kernel, by decide +kernel⟩
def R_names : List PyData → List PyData → Prop := fun ds es => ∃ (c : Int) (i st m : Nat), ds = [.int c, .int (m : Nat)] ∧ m ≤ 3 ∧ c % 26 = (i : Int) ∧ c / 26 % 4 = (st : Int) ∧ es = (namesF i st m).map PyData.str
theorem ok_names (Z_range : mg "range" = none) (Z_int : mg "int" = none) (D : Def K mg "_law_names" s__law_names ["_law_cell_here", "_law_many"]) : FnAt P w K mg base 1 "_law_names" ["_law_cell_here", "_law_many"] (spN K R_names) := by
  refine D.okN sc__law_names (fun ds d ⟨c, i, st, m, h, _⟩ => by rw [h] <;> rfl) fun f0 cdv A0 outer s H vs Q E ds es hr hv hR q => ?_
  obtain ⟨c, i, st, m, rfl, hm, hi, hst, rfl⟩ := hR
  obtain ⟨v0, v1, rfl, h0, h1⟩ := hv.i2
  obtain rfl := h0.int_inv
  obtain rfl := h1.int_inv
  have hi26 : i < 26 := by omega
  have hst4 : st < 4 := by omega
  refine ⟨_, (pss_cons (ps_set (i := 2) sc__law_names.nd rfl (by first | exact Or.inl rfl | exact Or.inr rfl) (pe_ix ix_str pe_str (pe_op op_mod (pe_callTy call_intS (by rfl) Z_int bt_int (pa_cons (pv 0) pa_nil)) pe_int) (fun _ _ => rfl)))
      (pss_cons (ps_set (i := 3) sc__law_names.nd rfl (by first | exact Or.inl rfl | exact Or.inr rfl) (pe_op op_mod (pe_op op_fdiv (pe_callTy call_intS (by rfl) Z_int bt_int (pa_cons (pv 0) pa_nil)) pe_int) pe_int))
      (pss_cons (ps_set (i := 4) sc__law_names.nd rfl (by first | exact Or.inl rfl | exact Or.inr rfl) (pe_lst pa_nil))
      (pss_cons (ps_for PassesOwn.never rfl (pi_range1 (by rfl) Z_range (pa_cons (pv 1) pa_nil)) (pg_name (i := 5) sc__law_names.nd rfl (by first | exact Or.inl rfl | exact Or.inr rfl)) (pss_one (ps_if (pt_cmpR op_eq (pv 3) pe_int (nomark _)) (pss_one (ps_expr (pe_bm PySem.F.plainAttrs_list PySem.F.slot_list_append PySem.F.type_list_append mt_append (pv 4) (pa_cons (pe_op op_addStr (pv 2) (pe_op op_repS pe_str (pv 5))) pa_nil)))) (pss_one (ps_if (pt_cmpR op_eq (pv 3) pe_int (nomark _)) (pss_one (ps_expr (pe_bm PySem.F.plainAttrs_list PySem.F.slot_list_append PySem.F.type_list_append mt_append (pv 4) (pa_cons (pe_op op_addStr (pe_op op_addStr (pv 2) pe_str) (pe_ix ix_str pe_str (pv 5) (fun _ _ => rfl))) pa_nil)))) (pss_one (ps_if (pt_cmpR op_eq (pv 3) pe_int (nomark _)) (pss_one (ps_expr (pe_bm PySem.F.plainAttrs_list PySem.F.slot_list_append PySem.F.type_list_append mt_append (pv 4) (pa_cons (pe_op op_addStr (pe_op op_addStr (pe_ix ix_str pe_str (pv 5) (fun _ _ => rfl)) (pv 2)) pe_str) pa_nil)))) (pss_one (ps_expr (pe_bm PySem.F.plainAttrs_list PySem.F.slot_list_append PySem.F.type_list_append mt_append (pv 4) (pa_cons (pe_op op_addStr (pe_op op_addStr (pv 2) pe_str) (pe_ix ix_str pe_str (pv 5) (fun _ _ => rfl))) pa_nil)))))))))))
      (pss_one (ps_ret (pv 4))))))), ?_⟩
  try dsimp only [cxOf]
  refine b_asg (v := .str (chF alph i)) (Ex.refl H) (ev_ch (s := alph) (k := i) ev_c (ev_is (ev_op (ev_int1 (ev_var rfl)) ev_c (rv_I (by decide))) (congrArg V.int hi)) (by decide +kernel) hi26) fun H1 e1 => ?_
  refine b_asg (v := .int (st : Int)) e1 (ev_is (ev_op (ev_op (ev_int1 (ev_var rfl)) ev_c (rv_I (by unfold CDiv; decide))) ev_c (rv_I (by decide))) (congrArg V.int hst)) fun H2 e2 => ?_
  refine b_asgL e2 (l_lst (K := K) K27.ea_nil (by simp)) fun l xs0 H3 hl e3 hl3 r3 => ?_
  cases r3
  have hlf : H l = none := fresh_back e2 hl
  show tSeq _ _ _ [some (.int c), some (.int (m : Nat)), some (.str (chF alph i)), some (.int (st : Nat)), some (.ref l), none] H3
  have ll : ∀ k : Nat, (chF alph i).length = 1 := fun _ => rfl
  refine q_forR1 (n := (m : Int)) (Evl.ea_cons (ev_var rfl) Evl.ea_nil) (by omega) (fun k σ' H' => (∃ o1, σ' = [some (.int c), some (.int (m : Nat)), some (.str (chF alph i)), some (.int (st : Nat)), some (.ref l), o1]) ∧ Ex H H' ∧ H' l = some (.lst ((namesF i st k).map V.str))) (fun H5 e5 => ⟨⟨none, rfl⟩, e3.trans e5, e5 _ _ hl3⟩) ?_ ?_
  · rintro k σ' H5 hk ⟨⟨o1, rfl⟩, e5, hl5⟩
    show tIfS _ _ _ _ [some (.int c), some (.int (m : Nat)), some (.str (chF alph i)), some (.int (st : Nat)), some (.ref l), some (.int (k : Int))] H5
    have hk3 : k < 3 := by omega
    have hsz : ((namesF i st k).map V.str).length < 100000 := by rw [List.length_map, namesF_len]; omega
    have zl : (zs k).length ≤ 2 := by rcases (by omega : k = 0 ∨ k = 1 ∨ k = 2) with rfl | rfl | rfl <;> decide +kernel
    have c1 : ∀ s : Str, (chF s k).length = 1 := fun _ => rfl
    have fin : ∀ (H6 H7 : Hp) (v : V), Ex H5 H6 → Ex H6 H7 → Da K H7 v (.str (nmF i st k)) → (∃ o1, ([some (.int c), some (.int (m : Nat)), some (.str (chF alph i)), some (.int (st : Nat)), some (.ref l), some (.int (k : Int))] : L2.St) = [some (.int c), some (.int (m : Nat)), some (.str (chF alph i)), some (.int (st : Nat)), some (.ref l), o1]) ∧ Ex H (upd H7 l (.lst ((namesF i st k).map V.str ++ [v]))) ∧ (upd H7 l (.lst ((namesF i st k).map V.str ++ [v]))) l = some (.lst ((namesF i st (k + 1)).map V.str)) := fun H6 H7 v e6 e7 r => by
      obtain rfl := r.str_inv
      refine ⟨⟨_, rfl⟩, Ex.mut ((e5.trans e6).trans e7) hlf, ?_⟩
      rw [upd_same, namesF_succ, List.map_append] <;> rfl
    rcases (by omega : st = 0 ∨ st = 1 ∨ st = 2 ∨ st = 3) with rfl | rfl | rfl | rfl
    · refine b_yes1 (Ex.refl H5) (by walk_at "ev") (by decide +kernel) fun H6 e6 => ?_
      exact b_app1 (e6 _ _ hl5) (ev_var rfl) (e_str (ev_addS (ev_var rfl) (ev_rep ev_c (ev_var rfl) (by omega)) (by rw [ll k]; omega))) hsz fun v H7 e7 r7 => fin H6 H7 v e6 e7 r7
    · refine b_no1 (Ex.refl H5) (by walk_at "ev") (by decide +kernel) fun H6 e6 => ?_
      refine b_yes1 (Ex.refl H6) (by walk_at "ev") (by decide +kernel) fun H6' e6' => ?_
      exact b_app1 ((e6.trans e6') _ _ hl5) (ev_var rfl) (e_str (ev_addS (ev_addS (ev_var rfl) ev_c (by rw [ll k]; decide +kernel)) (ev_ch (s := "zyxw") ev_c (ev_var rfl) (by decide +kernel) (by show k < 4; omega)) (by rw [Str.length_append, ll k, c1]; decide +kernel))) hsz fun v H7 e7 r7 => fin H6' H7 v (e6.trans e6') e7 r7
    · refine b_no1 (Ex.refl H5) (by walk_at "ev") (by decide +kernel) fun H6 e6 => ?_
      refine b_no1 (Ex.refl H6) (by walk_at "ev") (by decide +kernel) fun H6' e6' => ?_
      refine b_yes1 (Ex.refl H6') (by walk_at "ev") (by decide +kernel) fun H6'' e6'' => ?_
      exact b_app1 ((e6.trans (e6'.trans e6'')) _ _ hl5) (ev_var rfl) (e_str (ev_addS (ev_addS (ev_ch (s := "dcba") ev_c (ev_var rfl) (by decide +kernel) (by show k < 4; omega)) (ev_var rfl) (by rw [ll k, c1]; decide +kernel)) ev_c (by rw [Str.length_append, ll k, c1]; decide +kernel))) hsz fun v H7 e7 r7 => fin H6'' H7 v (e6.trans (e6'.trans e6'')) e7 r7
    · refine b_no1 (Ex.refl H5) (by walk_at "ev") (by decide +kernel) fun H6 e6 => ?_
      refine b_no1 (Ex.refl H6) (by walk_at "ev") (by decide +kernel) fun H6' e6' => ?_
      refine b_no1 (Ex.refl H6') (by walk_at "ev") (by decide +kernel) fun H6'' e6'' => ?_
      exact b_app1 ((e6.trans (e6'.trans e6'')) _ _ hl5) (ev_var rfl) (e_str (ev_addS (ev_addS (ev_var rfl) ev_c (by rw [ll k]; decide +kernel)) (ev_ch (s := "DBCA") ev_c (ev_var rfl) (by decide +kernel) (by show k < 4; omega)) (by rw [Str.length_append, ll k, c1]; decide +kernel))) hsz fun v H7 e7 r7 => fin H6'' H7 v (e6.trans (e6'.trans e6'')) e7 r7
  · rintro σ' H5 ⟨⟨o1, rfl⟩, e5, hl5⟩
    exact ⟨_, rfl, q l _ H5 hlf e5 hl5 (DaAll.ofStrs _)⟩
/-! ### lengths -/
def lenF (c : Int) : Nat × Nat := if c / 20 % 8 = 1 then ((c / 160 % 10).toNat, (1 + c / 1600 % 9).toNat) else ((c % 5).toNat, (1 + c / 5 % 4).toNat)
theorem lenF_bd (c : Int) : (lenF c).1 ≤ 9 ∧ 1 ≤ (lenF c).2 ∧ (lenF c).2 ≤ 9 := by
  unfold lenF
  split
  · dsimp only
    omega
  · dsimp only
    omega
abbrev s__law_lengths : Stmt := topS 64
abbrev N__law_lengths : List Str := ["_law_cell_here"]
theorem sc__law_lengths : FnScope N__law_lengths ["_law_cell_here"] (defScope s__law_lengths) := ⟨rfl, rfl, rfl, by decide +kernel, rfl, by decide +kernel, by decide +kernel⟩
def R_lengths : Rl := fun ds d => ∃ (c : Int), ds = [.int c] ∧ d = .list [.int ((lenF c).1 : Nat), .int ((lenF c).2 : Nat)]
theorem ok_lengths (Z_int : mg "int" = none) (D : Def K mg "_law_lengths" s__law_lengths ["_law_cell_here"]) : FnAt P w K mg base 1 "_law_lengths" ["_law_cell_here"] (spR K R_lengths) := by
  refine D.ok sc__law_lengths (fun ds d ⟨c, h, _⟩ => by rw [h] <;> rfl) fun f0 cdv A0 outer s H vs Q E ds d hr hv hR q => ?_
  obtain ⟨c, rfl, rfl⟩ := hR
  obtain ⟨v0, rfl, h0⟩ := hv.i1
  obtain rfl := h0.int_inv
  refine ⟨_, (pss_cons (ps_if (pt_cmpR op_eq (pe_op op_mod (pe_op op_fdiv (pe_callTy call_intS (by rfl) Z_int bt_int (pa_cons (pv 0) pa_nil)) pe_int) pe_int) pe_int (nomark _)) (pss_one (ps_ret (pe_lst (pa_cons (pe_op op_mod (pe_op op_fdiv (pe_callTy call_intS (by rfl) Z_int bt_int (pa_cons (pv 0) pa_nil)) pe_int) pe_int) (pa_cons (pe_op op_add pe_int (pe_op op_mod (pe_op op_fdiv (pe_callTy call_intS (by rfl) Z_int bt_int (pa_cons (pv 0) pa_nil)) pe_int) pe_int)) pa_nil))))) pss_nil)
      (pss_one (ps_ret (pe_lst (pa_cons (pe_op op_mod (pe_callTy call_intS (by rfl) Z_int bt_int (pa_cons (pv 0) pa_nil)) pe_int) (pa_cons (pe_op op_add pe_int (pe_op op_mod (pe_op op_fdiv (pe_callTy call_intS (by rfl) Z_int bt_int (pa_cons (pv 0) pa_nil)) pe_int) pe_int)) pa_nil)))))), ?_⟩
  try dsimp only [cxOf]
  have dm : ∀ (k j : Int) H', 0 < k → k < 1073741824 → 0 < j → Ev (tOp (rI (fun _ j => 0 < j) fun i j => .int (i % j)) (tOp (rI CDiv fun i j => .int (i / j)) (tCB rInt1 (tCons (tVar 0) tNil)) (tC (.int k))) (tC (.int j))) [some (.int c)] H' (.int (c / k % j)) := fun k j H' h1 h2 h3 => ev_op (ev_op (ev_int1 (ev_var rfl)) ev_c (rv_I ⟨h1, h2⟩)) ev_c (rv_I h3)
  refine b_when (Ex.refl H) (et_test (ev_op (dm _ _ _ (by decide) (by decide) (by decide)) ev_c (rv_eq rfl))) (fun hb H1 e1 => ?_) fun hb H1 e1 => ?_
  · have hb' : c / 20 % 8 = 1 := V.int.inj (of_decide_eq_true hb)
    refine b_ret e1 (e_lst (K27.ea_cons (e_int (ev_is (dm _ _ _ (by decide) (by decide) (by decide)) (congrArg V.int ?_))) (K27.ea_cons (e_int (ev_is (ev_op ev_c (dm _ _ _ (by decide) (by decide) (by decide)) rv_I0) (congrArg V.int ?_))) K27.ea_nil)) (by simp)) q
    · unfold lenF
      rw [if_pos hb']
      dsimp only
      omega
    · unfold lenF
      rw [if_pos hb']
      dsimp only
      omega
  · have hb' : ¬ c / 20 % 8 = 1 := fun z => of_decide_eq_false hb (congrArg V.int z)
    refine b_ret e1 (e_lst (K27.ea_cons (e_int (ev_is (ev_op (ev_int1 (ev_var rfl)) ev_c (rv_I (by decide))) (congrArg V.int ?_))) (K27.ea_cons (e_int (ev_is (ev_op ev_c (dm _ _ _ (by decide) (by decide) (by decide)) rv_I0) (congrArg V.int ?_))) K27.ea_nil)) (by simp)) q
    · unfold lenF
      rw [if_neg hb']
      dsimp only
      omega
    · unfold lenF
      rw [if_neg hb']
      dsimp only
      omega
end
end K27

/-! K27: the law's terms and comparisons. -/
namespace K27
open PySem PySem.Spec PyProof.Rows L2 Evl
local macro_rules | `(tactic| walk_at "ev") => `(tactic| first
  | exact ev_c
  | exact ev_var rfl
  | (refine' et_test ?h; (case h => walk_at "ev"))
  | (refine' et_B ?h; (case h => walk_at "ev"))
  | (refine' et_not ?h; (case h => walk_at "ev"))
  | (refine' et_and ?a (fun _ => ?b); (case a => walk_at "ev"); (case b => walk_at "ev"))
  | (refine' et_or ?a (fun _ => ?b); (case a => walk_at "ev"); (case b => walk_at "ev"))
  | (refine' ev_op ?a ?b (rv_eq ?c); (case a => walk_at "ev"); (case b => walk_at "ev"); (case c => rfl))
  | (refine' ev_op ?a ?b rv_I0; (case a => walk_at "ev"); (case b => walk_at "ev"))
  | (refine' ev_inU ?a ?b ?c ?d; (case a => walk_at "ev"); (case b => (refine' eu_tup ?x ?y; (case x => walk_at "ev"); (case y => decide))); (case c => rfl); (case d => rfl))
  | (refine' ev_str (e_ixT ?a ?b ?c); (case a => walk_at "ed"); (case b => walk_at "ev"); (case c => first | exact at0 | exact at1 | exact at2))
  | (refine' ev_int (e_ixT ?a ?b ?c); (case a => walk_at "ed"); (case b => walk_at "ev"); (case c => first | exact at0 | exact at1 | exact at2))
  | exact Evl.ea_nil
  | (refine' Evl.ea_cons ?a ?b; (case a => walk_at "ev"); (case b => walk_at "ev")))
local macro_rules | `(tactic| walk_at "ed") => `(tactic| first
  | exact e_var rfl (by assumption)
  | exact e_var rfl (by constructor)
  | exact K27.ea_nil
  | (refine' K27.ea_cons ?a ?b; (case a => walk_at "ed"); (case b => walk_at "ed"))
  | (refine' e_tup ?a ?b; (case a => walk_at "ed"); (case b => (simp only [List.length_cons, List.length_nil, List.length_append]; omega)))
  | (refine' e_ixT ?a ?b ?c; (case a => walk_at "ed"); (case b => walk_at "ev"); (case c => first | exact at0 | exact at1 | exact at2))
  | (refine' e_ev ?a ?b; (case a => walk_at "ev"); (case b => first | exact .str _ | exact .int _ | exact .bl _ | assumption)))
def nmT (N : List Str) (i : Nat) : Tm := .nm (N.getD (i % N.length) "")
def smT (dr : Nat) : Tm := .num ((dr / 48 % 5 : Nat) : Int)
def cnT (dr : Nat) : Int := 1 + ((dr / 48 % 5 : Nat) : Int)
def tmsF (N : List Str) (great : Int) (dr : Nat) : List Tm := [nmT N (dr / 16), nmT N (dr / 16), nmT N (dr / 16), nmT N (dr / 16), smT dr, smT dr, smT dr, .num great, .op2 .plus (nmT N (dr / 16)) (smT dr)] ++
  [.op2 .minus (nmT N (dr / 16)) (nmT N (dr / 48)), .op2 .times (nmT N (dr / 16)) (nmT N (dr / 48)), .neg (nmT N (dr / 16)), .opk .quo (nmT N (dr / 16)) (cnT dr)] ++
  [.opk .rem (nmT N (dr / 48)) (cnT dr), .op2 .least (nmT N (dr / 16)) (smT dr), .op2 .most (.neg (nmT N (dr / 16))) (nmT N (dr / 48))]
def termF (N : List Str) (great : Int) (dr : Nat) : Tm := (tmsF N great dr).getD (dr % 16) (.num 0)
theorem tmsF_at (N : List Str) (great : Int) (dr : Nat) : ((tmsF N great dr).map Tm.d)[dr % 16]? = some (termF N great dr).d := by
  have h : dr % 16 < (tmsF N great dr).length := by show dr % 16 < 16; omega
  unfold termF
  rw [List.getElem?_map, List.getElem?_eq_getElem h, List.getD_eq_getElem?_getD, List.getElem?_eq_getElem h] <;> rfl
theorem nmT_mem {N : List Str} (hN : 0 < N.length) (i : Nat) : N.getD (i % N.length) "" ∈ N := by
  have h := Nat.mod_lt i hN
  rw [List.getD_eq_getElem?_getD, List.getElem?_eq_getElem h]
  exact List.getElem_mem _
theorem nm_at {N : List Str} (hN : 0 < N.length) (i : Nat) : (N.map PyData.str)[i % N.length]? = some (.str (N.getD (i % N.length) "")) := by
  have h := Nat.mod_lt i hN
  rw [List.getElem?_map, List.getElem?_eq_getElem h, List.getD_eq_getElem?_getD, List.getElem?_eq_getElem h] <;> rfl
def Gt (great : Int) : Prop := 0 ≤ great ∧ great < 1000000000000000000
theorem tmsF_fine {N : List Str} (hN : 0 < N.length) {great : Int} (hg : Gt great) (dr : Nat) : ∀ t ∈ tmsF N great dr, t.fine N ∧ t.dp ≤ 3 := by
  have h1 : ∀ i, (nmT N i).fine N ∧ (nmT N i).dp = 1 := fun i => ⟨nmT_mem hN i, rfl⟩
  have h2 : (smT dr).fine N ∧ (smT dr).dp = 1 := ⟨by show -(2 ^ 64) < ((dr / 48 % 5 : Nat) : Int) ∧ ((dr / 48 % 5 : Nat) : Int) < 2 ^ 64; omega, rfl⟩
  have h3 : 0 < cnT dr ∧ cnT dr < 1000 := by unfold cnT; omega
  have h4 : (Tm.num great).fine N ∧ (Tm.num great).dp = 1 := ⟨by show -(2 ^ 64) < great ∧ great < 2 ^ 64; unfold Gt at hg; omega, rfl⟩
  intro t ht
  simp only [tmsF, List.cons_append, List.nil_append, List.mem_cons, List.not_mem_nil, or_false] at ht
  rcases ht with rfl | rfl | rfl | rfl | rfl | rfl | rfl | rfl | rfl | rfl | rfl | rfl | rfl | rfl | rfl | rfl
  · exact ⟨(h1 _).1, by rw [(h1 _).2]; decide⟩
  · exact ⟨(h1 _).1, by rw [(h1 _).2]; decide⟩
  · exact ⟨(h1 _).1, by rw [(h1 _).2]; decide⟩
  · exact ⟨(h1 _).1, by rw [(h1 _).2]; decide⟩
  · exact ⟨h2.1, by rw [h2.2]; decide⟩
  · exact ⟨h2.1, by rw [h2.2]; decide⟩
  · exact ⟨h2.1, by rw [h2.2]; decide⟩
  · exact ⟨h4.1, by rw [h4.2]; decide⟩
  · exact ⟨⟨(h1 _).1, h2.1, fun z => by cases z⟩, by simp [Tm.dp, nmT, smT]⟩
  · exact ⟨⟨(h1 _).1, (h1 _).1, fun z => by cases z⟩, by simp [Tm.dp, nmT, smT]⟩
  · exact ⟨⟨(h1 _).1, (h1 _).1, fun _ => ⟨_, rfl⟩⟩, by simp [Tm.dp, nmT, smT]⟩
  · exact ⟨(h1 _).1, by simp [Tm.dp, nmT, smT]⟩
  · exact ⟨⟨(h1 _).1, h3.1, h3.2⟩, by simp [Tm.dp, nmT, smT]⟩
  · exact ⟨⟨(h1 _).1, h3.1, h3.2⟩, by simp [Tm.dp, nmT, smT]⟩
  · exact ⟨⟨(h1 _).1, h2.1, fun z => by cases z⟩, by simp [Tm.dp, nmT, smT]⟩
  · exact ⟨⟨(h1 _).1, (h1 _).1, fun z => by cases z⟩, by simp [Tm.dp, nmT, smT]⟩
theorem termF_fine {N : List Str} (hN : 0 < N.length) {great : Int} (hg : Gt great) (dr : Nat) : (termF N great dr).fine N ∧ (termF N great dr).dp ≤ 3 := by
  refine tmsF_fine hN hg dr _ ?_
  have h : dr % 16 < (tmsF N great dr).length := by show dr % 16 < 16; omega
  unfold termF
  rw [List.getD_eq_getElem?_getD, List.getElem?_eq_getElem h]
  exact List.getElem_mem _
def cmF (one : Nat) : Cm := if one / 8 % 3 = 0 then .eq else if one / 8 % 3 = 1 then .lt else .le
def leafF (N : List Str) (great : Int) (few : Bool) (plain one two : Nat) : Fm :=
  if one % 8 < plain then (if two % 2 = 0 then .tt else .ff)
  else if few then .cmp (cmF one) (nmT N (one / 24)) (.num ((two % 3 : Nat) : Int)) else .cmp (cmF one) (termF N great (one / 24 + two % 5 * 48)) (termF N great two)
theorem leafF_fine {N : List Str} (hN : 0 < N.length) {great : Int} (hg : Gt great) (few : Bool) (plain one two : Nat) : (leafF N great few plain one two).fine N ∧ (leafF N great few plain one two).dp = 1 := by
  unfold leafF
  split
  · split
    · exact ⟨trivial, rfl⟩
    · exact ⟨trivial, rfl⟩
  · split
    · exact ⟨⟨⟨nmT_mem hN _, by simp [Tm.dp, nmT]⟩, by show -(2 ^ 64) < ((two % 3 : Nat) : Int) ∧ ((two % 3 : Nat) : Int) < 2 ^ 64; omega, by simp [Tm.dp, nmT]⟩, rfl⟩
    · exact ⟨⟨termF_fine hN hg _, termF_fine hN hg _⟩, rfl⟩
section
variable {P : Program} {w : World} {K : PySem.W.Frag} {mg : Str → Option Value} {base : Heap}
/-- int(x) // a % b, int(x) % b -/
theorem ev_dm {σ : L2.St} {H : Hp} {te tl : TE} {dr : Nat} {k m : Int} (a : Nat) {b : Nat} (h : Ev te σ H (.int (dr : Int))) (hk : k = (a : Int)) (ha : 0 < a) (ha2 : a < 1073741824) (hl : Ev tl σ H (.int m)) (hm : m = (b : Int)) (hb : 0 < b) : Ev (tOp (rI (fun _ j => 0 < j) fun i j => .int (i % j)) (tOp (rI CDiv fun i j => .int (i / j)) (tCB rInt1 (tCons te tNil)) (tC (.int k))) tl) σ H (.int ((dr / a % b : Nat) : Int)) := by
  subst hk hm
  exact ev_op (ev_op (ev_int1 h) ev_c (rv_I ⟨by omega, by omega⟩)) hl (rv_I (by omega))
theorem ev_md {σ : L2.St} {H : Hp} {te : TE} {dr : Nat} {k : Int} (a : Nat) (h : Ev te σ H (.int (dr : Int))) (hk : k = (a : Int)) (ha : 0 < a) : Ev (tOp (rI (fun _ j => 0 < j) fun i j => .int (i % j)) (tCB rInt1 (tCons te tNil)) (tC (.int k))) σ H (.int ((dr % a : Nat) : Int)) := by
  subst hk
  exact ev_op (ev_int1 h) ev_c (rv_I (by omega))
abbrev s__law_term : Stmt := topS 49
abbrev N__law_term : List Str := ["_law_draw", "_law_names_here", "_law_great", "_law_name", "_law_other", "_law_small", "_law_count", "_law_terms"]
theorem sc__law_term : FnScope N__law_term ["_law_draw", "_law_names_here", "_law_great"] (defScope s__law_term) := ⟨rfl, rfl, rfl, by decide +kernel, rfl, by decide +kernel, by decide +kernel⟩
def R_term : Rl := fun ds d => ∃ (N : List Str) (great : Int) (dr : Nat), ds = [.int (dr : Nat), .list (N.map PyData.str), .int great] ∧ 0 < N.length ∧ d = (termF N great dr).d
theorem ok_term (Z_int : mg "int" = none) (Z_len : mg "len" = none) (D : Def K mg "_law_term" s__law_term ["_law_draw", "_law_names_here", "_law_great"]) : FnAt P w K mg base 1 "_law_term" ["_law_draw", "_law_names_here", "_law_great"] (spR K R_term) := by
  refine D.ok sc__law_term (fun ds d ⟨N, g, dr, h, _⟩ => by rw [h] <;> rfl) fun f0 cdv A0 outer s H vs Q E ds d hr hv hR q => ?_
  obtain ⟨N, g, dr, rfl, hN, rfl⟩ := hR
  obtain ⟨v0, v1, v2, rfl, h0, h1, h2⟩ := hv.i3
  obtain rfl := h0.int_inv
  obtain rfl := h2.int_inv
  refine ⟨_, (pss_cons (ps_set (i := 3) sc__law_term.nd rfl (by first | exact Or.inl rfl | exact Or.inr rfl) (pe_tup (pa_cons pe_str (pa_cons (pe_ix ix_list (pv 1) (pe_op op_mod (pe_op op_fdiv (pe_callTy call_intS (by rfl) Z_int bt_int (pa_cons (pv 0) pa_nil)) pe_int) (pe_callB call_lenS (by rfl) Z_len PySem.boot_len (pa_cons (pv 1) pa_nil))) (fun _ _ => rfl)) pa_nil))))
      (pss_cons (ps_set (i := 4) sc__law_term.nd rfl (by first | exact Or.inl rfl | exact Or.inr rfl) (pe_tup (pa_cons pe_str (pa_cons (pe_ix ix_list (pv 1) (pe_op op_mod (pe_op op_fdiv (pe_callTy call_intS (by rfl) Z_int bt_int (pa_cons (pv 0) pa_nil)) pe_int) (pe_callB call_lenS (by rfl) Z_len PySem.boot_len (pa_cons (pv 1) pa_nil))) (fun _ _ => rfl)) pa_nil))))
      (pss_cons (ps_set (i := 5) sc__law_term.nd rfl (by first | exact Or.inl rfl | exact Or.inr rfl) (pe_tup (pa_cons pe_str (pa_cons (pe_op op_mod (pe_op op_fdiv (pe_callTy call_intS (by rfl) Z_int bt_int (pa_cons (pv 0) pa_nil)) pe_int) pe_int) pa_nil))))
      (pss_cons (ps_set (i := 6) sc__law_term.nd rfl (by first | exact Or.inl rfl | exact Or.inr rfl) (pe_op op_add pe_int (pe_op op_mod (pe_op op_fdiv (pe_callTy call_intS (by rfl) Z_int bt_int (pa_cons (pv 0) pa_nil)) pe_int) pe_int)))
      (pss_cons (ps_set (i := 7) sc__law_term.nd rfl (by first | exact Or.inl rfl | exact Or.inr rfl) (pe_lst (pa_cons (pv 3) (pa_cons (pv 3) (pa_cons (pv 3) (pa_cons (pv 3) (pa_cons (pv 5) (pa_cons (pv 5) (pa_cons (pv 5) (pa_cons (pe_tup (pa_cons pe_str (pa_cons (pv 2) pa_nil))) (pa_cons (pe_tup (pa_cons pe_str (pa_cons (pv 3) (pa_cons (pv 5) pa_nil)))) pa_nil)))))))))))
      (pss_cons (ps_set (i := 7) sc__law_term.nd rfl (by first | exact Or.inl rfl | exact Or.inr rfl) (pe_op op_cat (pv 7) (pe_lst (pa_cons (pe_tup (pa_cons pe_str (pa_cons (pv 3) (pa_cons (pv 4) pa_nil)))) (pa_cons (pe_tup (pa_cons pe_str (pa_cons (pv 3) (pa_cons (pv 4) pa_nil)))) (pa_cons (pe_tup (pa_cons pe_str (pa_cons (pv 3) pa_nil))) (pa_cons (pe_tup (pa_cons pe_str (pa_cons (pv 3) (pa_cons (pv 6) pa_nil)))) pa_nil)))))))
      (pss_cons (ps_set (i := 7) sc__law_term.nd rfl (by first | exact Or.inl rfl | exact Or.inr rfl) (pe_op op_cat (pv 7) (pe_lst (pa_cons (pe_tup (pa_cons pe_str (pa_cons (pv 4) (pa_cons (pv 6) pa_nil)))) (pa_cons (pe_tup (pa_cons pe_str (pa_cons (pv 3) (pa_cons (pv 5) pa_nil)))) (pa_cons (pe_tup (pa_cons pe_str (pa_cons (pe_tup (pa_cons pe_str (pa_cons (pv 3) pa_nil))) (pa_cons (pv 4) pa_nil)))) pa_nil))))))
      (pss_one (ps_ret (pe_ix ix_list (pv 7) (pe_op op_mod (pe_callTy call_intS (by rfl) Z_int bt_int (pa_cons (pv 0) pa_nil)) pe_int) (fun _ _ => rfl))))))))))), ?_⟩
  try dsimp only [cxOf]
  have nm : ∀ (a : Nat) (k : Int) (σ : L2.St) H', k = (a : Int) → 0 < a → a < 1073741824 → σ[0]? = some (some (.int (dr : Int))) → σ[1]? = some (some v1) → Ex H H' → K27.E K (tTup (tCons (tC (.str "name")) (tCons (tOp (rIxL K) (tVar 1) (tOp (rI (fun _ j => 0 < j) fun i j => .int (i % j)) (tOp (rI CDiv fun i j => .int (i / j)) (tCB rInt1 (tCons (tVar 0) tNil)) (tC (.int k))) (tCB (rLenS K) (tCons (tVar 1) tNil)))) tNil))) σ H' (nmT N (dr / a)).d := fun a k σ H' hk h1' h2' s0 s1 e => by
    exact e_tup (K27.ea_cons (e_str ev_c) (K27.ea_cons (e_ixL (e_var s1 (h1.mono e)) (ev_dm a (ev_var s0) hk h1' h2' (ev_lenD (.inl (e_var s1 (h1.mono e)))) (by rw [List.length_map]) hN) (atI_nat (nm_at hN _))) K27.ea_nil)) (by simp)
  refine b_asgD (Ex.refl H) (nm 16 _ _ H rfl (by decide) (by decide) rfl rfl (Ex.refl H)) fun v3 H3 e3 r3 => ?_
  refine b_asgD (Ex.refl H3) (nm 48 _ _ H3 rfl (by decide) (by decide) rfl rfl e3) fun v4 H4 e4 r4 => ?_
  refine b_asgD (K := K) (d := (smT dr).d) (Ex.refl H4) (e_tup (K27.ea_cons (e_str ev_c) (K27.ea_cons (e_int (ev_dm 48 (ev_var rfl) rfl (by decide) (by decide) ev_c rfl (by decide))) K27.ea_nil)) (by simp)) fun v5 H5 e5 r5 => ?_
  refine b_asg (v := .int (cnT dr)) (Ex.refl H5) (ev_op ev_c (ev_dm 48 (ev_var rfl) rfl (by decide) (by decide) ev_c rfl (by decide)) rv_I0) fun H6 e6 => ?_
  have a3 := r3.mono (e4.trans (e5.trans e6))
  have a4 := r4.mono (e5.trans e6)
  have a5 := r5.mono e6
  show tSeq _ _ _ [some (.int (dr : Nat)), some v1, some (.int g), some v3, some v4, some v5, some (.int (cnT dr)), none] H6
  refine b_asgD (d := .list ([nmT N (dr / 16), nmT N (dr / 16), nmT N (dr / 16), nmT N (dr / 16), smT dr, smT dr, smT dr, .num g, .op2 .plus (nmT N (dr / 16)) (smT dr)].map Tm.d)) (Ex.refl H6) (e_lst (K27.ea_cons (e_var rfl a3) (K27.ea_cons (e_var rfl a3) (K27.ea_cons (e_var rfl a3) (K27.ea_cons (e_var rfl a3) (K27.ea_cons (e_var rfl a5) (K27.ea_cons (e_var rfl a5) (K27.ea_cons (e_var rfl a5) (K27.ea_cons (e_tup (K27.ea_cons (e_str ev_c) (K27.ea_cons (e_int (ev_var rfl)) K27.ea_nil)) (by simp)) (K27.ea_cons (e_tup (K27.ea_cons (e_str ev_c) (K27.ea_cons (e_var rfl a3) (K27.ea_cons (e_var rfl a5) K27.ea_nil))) (by simp)) K27.ea_nil))))))))) (by simp)) fun v7 H7 e7 r7 => ?_
  have b3 := a3.mono e7
  have b4 := a4.mono e7
  have b5 := a5.mono e7
  show tSeq _ _ _ [some (.int (dr : Nat)), some v1, some (.int g), some v3, some v4, some v5, some (.int (cnT dr)), some v7] H7
  refine b_asgD (Ex.refl H7) (e_cat (es := [Tm.op2 .minus (nmT N (dr / 16)) (nmT N (dr / 48)), .op2 .times (nmT N (dr / 16)) (nmT N (dr / 48)), .neg (nmT N (dr / 16)), .opk .quo (nmT N (dr / 16)) (cnT dr)].map Tm.d) (e_var rfl r7) (e_lst (K27.ea_cons (e_tup (K27.ea_cons (e_str ev_c) (K27.ea_cons (e_var rfl b3) (K27.ea_cons (e_var rfl b4) K27.ea_nil))) (by simp)) (K27.ea_cons (e_tup (K27.ea_cons (e_str ev_c) (K27.ea_cons (e_var rfl b3) (K27.ea_cons (e_var rfl b4) K27.ea_nil))) (by simp)) (K27.ea_cons (e_tup (K27.ea_cons (e_str ev_c) (K27.ea_cons (e_var rfl b3) K27.ea_nil)) (by simp)) (K27.ea_cons (e_tup (K27.ea_cons (e_str ev_c) (K27.ea_cons (e_var rfl b3) (K27.ea_cons (e_int (ev_var rfl)) K27.ea_nil))) (by simp)) K27.ea_nil)))) (by simp)) (by simp)) fun v8 H8 e8 r8 => ?_
  have c3 := b3.mono e8
  have c4 := b4.mono e8
  have c5 := b5.mono e8
  show tSeq _ _ _ [some (.int (dr : Nat)), some v1, some (.int g), some v3, some v4, some v5, some (.int (cnT dr)), some v8] H8
  refine b_asgD (Ex.refl H8) (e_cat (es := [Tm.opk .rem (nmT N (dr / 48)) (cnT dr), .op2 .least (nmT N (dr / 16)) (smT dr), .op2 .most (.neg (nmT N (dr / 16))) (nmT N (dr / 48))].map Tm.d) (e_var rfl r8) (e_lst (K27.ea_cons (e_tup (K27.ea_cons (e_str ev_c) (K27.ea_cons (e_var rfl c4) (K27.ea_cons (e_int (ev_var rfl)) K27.ea_nil))) (by simp)) (K27.ea_cons (e_tup (K27.ea_cons (e_str ev_c) (K27.ea_cons (e_var rfl c3) (K27.ea_cons (e_var rfl c5) K27.ea_nil))) (by simp)) (K27.ea_cons (e_tup (K27.ea_cons (e_str ev_c) (K27.ea_cons (e_tup (K27.ea_cons (e_str ev_c) (K27.ea_cons (e_var rfl c3) K27.ea_nil)) (by simp)) (K27.ea_cons (e_var rfl c4) K27.ea_nil))) (by simp)) K27.ea_nil))) (by simp)) (by simp)) fun v9 H9 e9 r9 => ?_
  refine b_ret (Ex.refl H9) (e_ixL (e_var rfl r9) (ev_md 16 (ev_var rfl) rfl (by decide)) (atI_nat (tmsF_at N g dr))) fun v H10 e10 => q v H10 ((((e3.trans e4).trans (e5.trans e6)).trans ((e7.trans e8).trans e9)).trans e10)
abbrev s__law_leaf : Stmt := topS 50
abbrev N__law_leaf : List Str := ["_law_one", "_law_two", "_law_names_here", "_law_great", "_law_few", "_law_plain", "_law_word"]
theorem sc__law_leaf : FnScope N__law_leaf ["_law_one", "_law_two", "_law_names_here", "_law_great", "_law_few", "_law_plain"] (defScope s__law_leaf) := ⟨rfl, rfl, rfl, by decide +kernel, rfl, by decide +kernel, by decide +kernel⟩
def R_leaf : Rl := fun ds d => ∃ (N : List Str) (great : Int) (few : Bool) (plain one two : Nat), ds = [.int (one : Nat), .int (two : Nat), .list (N.map PyData.str), .int great, .bool few, .int (plain : Nat)] ∧ 0 < N.length ∧ d = (leafF N great few plain one two).d
theorem ok_leaf (Z_int : mg "int" = none) (Z_len : mg "len" = none) (G__law_term : FnAt P w K mg base 1 "_law_term" ["_law_draw", "_law_names_here", "_law_great"] (spR K R_term)) (D : Def K mg "_law_leaf" s__law_leaf ["_law_one", "_law_two", "_law_names_here", "_law_great", "_law_few", "_law_plain"]) :
    FnAt P w K mg base 2 "_law_leaf" ["_law_one", "_law_two", "_law_names_here", "_law_great", "_law_few", "_law_plain"] (spR K R_leaf) := by
  refine D.ok sc__law_leaf (fun ds d ⟨N, g, few, plain, one, two, h, _⟩ => by rw [h] <;> rfl) fun f0 cdv A0 outer s H vs Q E ds d hr hv hR q => ?_
  obtain ⟨N, g, few, plain, one, two, rfl, hN, rfl⟩ := hR
  obtain ⟨v0, v1, v2, v3, v4, v5, rfl, h0, h1, h2, h3, h4, h5⟩ := hv.i6
  obtain rfl := h0.int_inv
  obtain rfl := h1.int_inv
  obtain rfl := h3.int_inv
  obtain rfl := h4.bl_inv
  obtain rfl := h5.int_inv
  refine ⟨_, (pss_cons (ps_if (pt_cmpR op_lt (pe_op op_mod (pe_callTy call_intS (by rfl) Z_int bt_int (pa_cons (pv 0) pa_nil)) pe_int) (pv 5) (nomark _)) (pss_one (ps_ret (pe_ix ix_list (pe_lst (pa_cons (pe_tup (pa_cons pe_str pa_nil)) (pa_cons (pe_tup (pa_cons pe_str pa_nil)) pa_nil))) (pe_op op_mod (pe_callTy call_intS (by rfl) Z_int bt_int (pa_cons (pv 1) pa_nil)) pe_int) (fun _ _ => rfl)))) pss_nil)
      (pss_cons (ps_set (i := 6) sc__law_leaf.nd rfl (by first | exact Or.inl rfl | exact Or.inr rfl) (pe_ix ix_list (pe_lst (pa_cons pe_str (pa_cons pe_str (pa_cons pe_str pa_nil)))) (pe_op op_mod (pe_op op_fdiv (pe_callTy call_intS (by rfl) Z_int bt_int (pa_cons (pv 0) pa_nil)) pe_int) pe_int) (fun _ _ => rfl)))
      (pss_cons (ps_if (pt_val (pv 4)) (pss_one (ps_ret (pe_tup (pa_cons (pv 6) (pa_cons (pe_tup (pa_cons pe_str (pa_cons (pe_ix ix_list (pv 2) (pe_op op_mod (pe_op op_fdiv (pe_callTy call_intS (by rfl) Z_int bt_int (pa_cons (pv 0) pa_nil)) pe_int) (pe_callB call_lenS (by rfl) Z_len PySem.boot_len (pa_cons (pv 2) pa_nil))) (fun _ _ => rfl)) pa_nil))) (pa_cons (pe_tup (pa_cons pe_str (pa_cons (pe_op op_mod (pe_callTy call_intS (by rfl) Z_int bt_int (pa_cons (pv 1) pa_nil)) pe_int) pa_nil))) pa_nil)))))) pss_nil)
      (pss_one (ps_ret (pe_tup (pa_cons (pv 6) (pa_cons (pe_callX G__law_term hr (pa_cons (pe_op op_add (pe_op op_fdiv (pe_callTy call_intS (by rfl) Z_int bt_int (pa_cons (pv 0) pa_nil)) pe_int) (pe_op op_mul (pe_op op_mod (pe_callTy call_intS (by rfl) Z_int bt_int (pa_cons (pv 1) pa_nil)) pe_int) pe_int)) (pa_cons (pv 2) (pa_cons (pv 3) pa_nil)))) (pa_cons (pe_callX G__law_term hr (pa_cons (pv 1) (pa_cons (pv 2) (pa_cons (pv 3) pa_nil)))) pa_nil))))))))), ?_⟩
  try dsimp only [cxOf]
  refine b_when (Ex.refl H) (et_test (ev_op (ev_md 8 (ev_var rfl) rfl (by decide)) (ev_var rfl) rv_I0)) (fun hb H1 e1 => ?_) fun hb H1 e1 => ?_
  · have hb' : one % 8 < plain := by
      have z := of_decide_eq_true hb
      omega
    refine b_ret e1 (e_ixL (ds := [Fm.tt.d, Fm.ff.d]) (e_lst (K27.ea_cons (e_tup (K27.ea_cons (e_str ev_c) K27.ea_nil) (by simp)) (K27.ea_cons (e_tup (K27.ea_cons (e_str ev_c) K27.ea_nil) (by simp)) K27.ea_nil)) (by simp)) (ev_md 2 (ev_var rfl) rfl (by decide)) (atI_nat ?_)) q
    unfold leafF
    rw [if_pos hb']
    rcases (by omega : two % 2 = 0 ∨ two % 2 = 1) with z | z
    · rw [z] <;> rfl
    · rw [z] <;> rfl
  have hb' : ¬ one % 8 < plain := by
    have z := of_decide_eq_false hb
    omega
  refine b_asg (v := .str (cmF one).w) e1 (ev_str (e_ixL (ds := [.str "equal", .str "below", .str "upto"]) (e_lst (K27.ea_cons (e_str ev_c) (K27.ea_cons (e_str ev_c) (K27.ea_cons (e_str ev_c) K27.ea_nil))) (by simp)) (ev_dm 8 (ev_var rfl) rfl (by decide) (by decide) ev_c rfl (by decide)) (atI_nat ?_))) fun H2 e2 => ?_
  · unfold cmF
    rcases (by omega : one / 8 % 3 = 0 ∨ one / 8 % 3 = 1 ∨ one / 8 % 3 = 2) with z | z | z
    · rw [z] <;> rfl
    · rw [z] <;> rfl
    · rw [z] <;> rfl
  refine b_when e2 (et_B (ev_var rfl)) (fun hf H3 e3 => ?_) fun hf H3 e3 => ?_
  · subst hf
    have e : (leafF N g true plain one two).d = .tuple [.str (cmF one).w, (nmT N (one / 24)).d, (Tm.num ((two % 3 : Nat) : Int)).d] := by
      unfold leafF
      rw [if_neg hb', if_pos rfl] <;> rfl
    rw [e] at q
    exact b_ret e3 (e_tup (K27.ea_cons (e_str (ev_var rfl)) (K27.ea_cons (e_tup (K27.ea_cons (e_str ev_c) (K27.ea_cons (e_ixL (e_var rfl h2) (ev_dm 24 (ev_var rfl) rfl (by decide) (by decide) (ev_lenD (.inl (e_var rfl h2))) (by rw [List.length_map]) hN) (atI_nat (nm_at hN _))) K27.ea_nil)) (by simp)) (K27.ea_cons (e_tup (K27.ea_cons (e_str ev_c) (K27.ea_cons (e_int (ev_md 3 (ev_var rfl) rfl (by decide))) K27.ea_nil)) (by simp)) K27.ea_nil))) (by simp)) q
  · subst hf
    have e : (leafF N g false plain one two).d = .tuple [.str (cmF one).w, (termF N g (one / 24 + two % 5 * 48)).d, (termF N g two).d] := by
      unfold leafF
      rw [if_neg hb', if_neg (by decide)] <;> rfl
    rw [e] at q
    refine b_ret e3 (e_tup (K27.ea_cons (e_str (ev_var rfl)) (K27.ea_cons (e_call (ds := [.int ((one / 24 + two % 5 * 48 : Nat) : Int), .list (N.map PyData.str), .int g]) (K27.ea_cons (e_int (ev_is (ev_op (ev_op (ev_int1 (ev_var rfl)) ev_c (rv_I (by unfold CDiv; decide))) (ev_op (ev_md 5 (ev_var rfl) rfl (by decide)) ev_c (rv_I (.inr (by decide)))) rv_I0) (congrArg V.int ?_))) (K27.ea_cons (e_var rfl h2) (K27.ea_cons (e_int (ev_var rfl)) K27.ea_nil))) ⟨N, g, _, rfl, hN, rfl⟩) (K27.ea_cons (e_call (ds := [.int (two : Nat), .list (N.map PyData.str), .int g]) (K27.ea_cons (e_int (ev_var rfl)) (K27.ea_cons (e_var rfl h2) (K27.ea_cons (e_int (ev_var rfl)) K27.ea_nil))) ⟨N, g, _, rfl, hN, rfl⟩) K27.ea_nil))) (by simp)) q
    omega
end
end K27

/-! K27: the law's formula. -/
namespace K27
open PySem PySem.Spec PyProof.Rows L2 Evl
local macro_rules | `(tactic| walk_at "ev") => `(tactic| first
  | exact ev_c
  | exact ev_var rfl
  | (refine' et_test ?h; (case h => walk_at "ev"))
  | (refine' et_B ?h; (case h => walk_at "ev"))
  | (refine' et_not ?h; (case h => walk_at "ev"))
  | (refine' et_and ?a (fun _ => ?b); (case a => walk_at "ev"); (case b => walk_at "ev"))
  | (refine' et_or ?a (fun _ => ?b); (case a => walk_at "ev"); (case b => walk_at "ev"))
  | (refine' ev_op ?a ?b (rv_eq ?c); (case a => walk_at "ev"); (case b => walk_at "ev"); (case c => rfl))
  | (refine' ev_op ?a ?b rv_I0; (case a => walk_at "ev"); (case b => walk_at "ev"))
  | (refine' ev_inU ?a ?b ?c ?d; (case a => walk_at "ev"); (case b => (refine' eu_tup ?x ?y; (case x => walk_at "ev"); (case y => decide))); (case c => rfl); (case d => rfl))
  | (refine' ev_str (e_ixT ?a ?b ?c); (case a => walk_at "ed"); (case b => walk_at "ev"); (case c => first | exact at0 | exact at1 | exact at2))
  | (refine' ev_int (e_ixT ?a ?b ?c); (case a => walk_at "ed"); (case b => walk_at "ev"); (case c => first | exact at0 | exact at1 | exact at2))
  | exact Evl.ea_nil
  | (refine' Evl.ea_cons ?a ?b; (case a => walk_at "ev"); (case b => walk_at "ev")))
local macro_rules | `(tactic| walk_at "ed") => `(tactic| first
  | exact e_var rfl (by assumption)
  | exact e_var rfl (by constructor)
  | exact K27.ea_nil
  | (refine' K27.ea_cons ?a ?b; (case a => walk_at "ed"); (case b => walk_at "ed"))
  | (refine' e_tup ?a ?b; (case a => walk_at "ed"); (case b => (simp only [List.length_cons, List.length_nil, List.length_append]; omega)))
  | (refine' e_ixT ?a ?b ?c; (case a => walk_at "ed"); (case b => walk_at "ev"); (case c => first | exact at0 | exact at1 | exact at2))
  | (refine' e_ev ?a ?b; (case a => walk_at "ev"); (case b => first | exact .str _ | exact .int _ | exact .bl _ | assumption)))
def ntD (ys : List Nat) : List PyData := ys.map fun (n : Nat) => PyData.int (n : Int)
theorem and2 {p q : Prop} [Decidable p] [Decidable q] (h : ¬ (p ∧ q)) : (decide p && decide q) = false := by by_cases p <;> by_cases q <;> simp_all
theorem and3 {p q r : Prop} [Decidable p] [Decidable q] [Decidable r] (h : ¬ ((p ∧ q) ∧ r)) : (decide p && (decide q && decide r)) = false := by by_cases p <;> by_cases q <;> by_cases r <;> simp_all
theorem and2t {p q : Prop} [Decidable p] [Decidable q] (h : p ∧ q) : (decide p && decide q) = true := by simp_all
theorem and3t {p q r : Prop} [Decidable p] [Decidable q] [Decidable r] (h : p ∧ q ∧ r) : (decide p && (decide q && decide r)) = true := by simp_all
def biF : Nat → Bi
  | 0 => .and
  | 1 => .or
  | 2 => .imp
  | 3 => .same
  | 4 => .untl
  | 5 => .rel
  | 6 => .unl
  | _ => .str
def unF : Nat → Un
  | 0 => .not
  | 1 => .next
  | 2 => .ev
  | 3 => .al
  | 4 => .not
  | _ => .next
def biWs : List PyData := [.str "and", .str "or", .str "implies", .str "same", .str "until", .str "release", .str "unless", .str "strong"]
def unWs : List PyData := [.str "not", .str "next", .str "eventually", .str "always", .str "not", .str "next"]
theorem bi_at {i : Nat} (h : i < 8) : biWs[i]? = some (.str (biF i).w) := by
  rcases (by omega : i = 0 ∨ i = 1 ∨ i = 2 ∨ i = 3 ∨ i = 4 ∨ i = 5 ∨ i = 6 ∨ i = 7) with rfl | rfl | rfl | rfl | rfl | rfl | rfl | rfl <;> rfl
theorem un_at {i : Nat} (h : i < 6) : unWs[i]? = some (.str (unF i).w) := by
  rcases (by omega : i = 0 ∨ i = 1 ∨ i = 2 ∨ i = 3 ∨ i = 4 ∨ i = 5) with rfl | rfl | rfl | rfl | rfl | rfl <;> rfl
section
variable (N : List Str) (great : Int) (few : Bool) (plain : Nat)
/-- one draw's work on the stack, top first -/
def stepF (ch one two : Nat) (S : List Fm) : List Fm :=
  if 16 ≤ ch ∧ 1 < S.length then (match S with
    | g :: f :: r => .bi (biF (ch - 16)) f g :: r
    | S => S)
  else if (10 ≤ ch ∧ ch < 16) ∧ 0 < S.length then (match S with
    | f :: r => .un (unF (ch - 10)) f :: r
    | [] => [])
  else leafF N great few plain one two :: S
def stkF (ys : List Nat) : Nat → List Fm
  | 0 => []
  | k + 1 => stepF N great few plain (ys.getD (3 * k) 0 % 24) (ys.getD (3 * k + 1) 0) (ys.getD (3 * k + 2) 0) (stkF ys k)
end
def foldF (ys : List Nat) (S : List Fm) : Nat → List Fm
  | 0 => S
  | k + 1 => match foldF ys S k with
    | g :: f :: r => .bi (biF (ys.getD k 0 % 8)) f g :: r
    | S => S
def sdp (S : List Fm) : Nat := (S.map Fm.dp).sum
def formF (N : List Str) (great : Int) (few : Bool) (plain : Nat) (ys : List Nat) (m : Nat) : Fm := (foldF ys (stkF N great few plain ys m) ((stkF N great few plain ys m).length - 1)).headD .tt
theorem foldF_len (ys : List Nat) (S : List Fm) : ∀ k, k < S.length → (foldF ys S k).length = S.length - k
  | 0, _ => rfl
  | k + 1, h => by
    have ih := foldF_len ys S k (by omega)
    show (match foldF ys S k with
      | g :: f :: r => Fm.bi (biF (ys.getD k 0 % 8)) f g :: r
      | S => S).length = S.length - (k + 1)
    match h2 : foldF ys S k with
    | [] => rw [h2] at ih; simp at ih; omega
    | [a] => rw [h2] at ih; simp at ih; omega
    | g :: f :: r => rw [h2] at ih; simp at ih ⊢; omega
/-- what holds of every tree of the stack -/
theorem bi_sdp (o : Bi) (f g : Fm) (r : List Fm) : sdp (.bi o f g :: r) ≤ sdp (g :: f :: r) := by
  have h1 := dp_pos f
  have h2 := dp_pos g
  show max f.dp g.dp + 1 + (r.map Fm.dp).sum ≤ g.dp + (f.dp + (r.map Fm.dp).sum)
  omega
theorem un_sdp (o : Un) (f : Fm) (r : List Fm) : sdp (.un o f :: r) = sdp (f :: r) + 1 := by
  show f.dp + 1 + (r.map Fm.dp).sum = f.dp + (r.map Fm.dp).sum + 1
  omega
theorem foldF_ok {N : List Str} {ys : List Nat} {S : List Fm} (hS : ∀ f ∈ S, f.fine N) : ∀ k, (∀ f ∈ foldF ys S k, f.fine N) ∧ sdp (foldF ys S k) ≤ sdp S
  | 0 => ⟨hS, Nat.le_refl _⟩
  | k + 1 => by
    obtain ⟨h1, h2⟩ := foldF_ok (ys := ys) hS k
    show (∀ f ∈ (match foldF ys S k with
      | g :: f :: r => Fm.bi (biF (ys.getD k 0 % 8)) f g :: r
      | S => S), f.fine N) ∧ sdp (match foldF ys S k with
      | g :: f :: r => Fm.bi (biF (ys.getD k 0 % 8)) f g :: r
      | S => S) ≤ sdp S
    match h3 : foldF ys S k with
    | [] => rw [h3] at h1 h2; exact ⟨h1, h2⟩
    | [a] => rw [h3] at h1 h2; exact ⟨h1, h2⟩
    | g :: f :: r =>
      rw [h3] at h1 h2
      refine ⟨fun x hx => ?_, Nat.le_trans (bi_sdp _ f g r) h2⟩
      rcases List.mem_cons.mp hx with rfl | hx
      · exact ⟨h1 f (by simp), h1 g (by simp)⟩
      · exact h1 x (by simp [hx])
theorem stkF_ok {N : List Str} {great : Int} (hN : 0 < N.length) (hg : Gt great) (few : Bool) (plain : Nat) (ys : List Nat) : ∀ k, (∀ f ∈ stkF N great few plain ys k, f.fine N) ∧ sdp (stkF N great few plain ys k) ≤ k ∧ (stkF N great few plain ys k).length ≤ k ∧ (0 < k → 0 < (stkF N great few plain ys k).length)
  | 0 => ⟨fun _ h => (by cases h), Nat.le_refl _, Nat.le_refl _, fun h => absurd h (by decide)⟩
  | k + 1 => by
    obtain ⟨h1, h2, h3, h4⟩ := stkF_ok hN hg few plain ys k
    have hl := leafF_fine hN hg few plain (ys.getD (3 * k + 1) 0) (ys.getD (3 * k + 2) 0)
    show (∀ f ∈ stepF N great few plain _ _ _ (stkF N great few plain ys k), f.fine N) ∧ sdp (stepF N great few plain _ _ _ (stkF N great few plain ys k)) ≤ k + 1 ∧ (stepF N great few plain _ _ _ (stkF N great few plain ys k)).length ≤ k + 1 ∧ (0 < k + 1 → 0 < (stepF N great few plain _ _ _ (stkF N great few plain ys k)).length)
    generalize stkF N great few plain ys k = S at *
    unfold stepF
    split
    · rename_i hc
      match S, hc.2 with
      | g :: f :: r, _ =>
        refine ⟨fun x hx => ?_, Nat.le_trans (bi_sdp _ f g r) (by omega), by simp at h3 ⊢; omega, fun _ => by simp⟩
        rcases List.mem_cons.mp hx with rfl | hx
        · exact ⟨h1 f (by simp), h1 g (by simp)⟩
        · exact h1 x (by simp [hx])
    · split
      · rename_i _ hc
        match S, hc.2 with
        | f :: r, _ =>
          refine ⟨fun x hx => ?_, by rw [un_sdp]; omega, by simp at h3 ⊢; omega, fun _ => by simp⟩
          rcases List.mem_cons.mp hx with rfl | hx
          · exact h1 f (by simp)
          · exact h1 x (by simp [hx])
      · refine ⟨fun x hx => ?_, ?_, by simp; omega, fun _ => by simp⟩
        · rcases List.mem_cons.mp hx with rfl | hx
          · exact hl.1
          · exact h1 x hx
        · show (leafF N great few plain _ _).dp + (S.map Fm.dp).sum ≤ k + 1
          rw [hl.2]
          have : sdp S = (S.map Fm.dp).sum := rfl
          omega
theorem formF_ok {N : List Str} {great : Int} (hN : 0 < N.length) (hg : Gt great) (few : Bool) (plain : Nat) (ys : List Nat) {m : Nat} (hm : 0 < m) : (formF N great few plain ys m).fine N ∧ (formF N great few plain ys m).dp ≤ m ∧ foldF ys (stkF N great few plain ys m) ((stkF N great few plain ys m).length - 1) = [formF N great few plain ys m] := by
  obtain ⟨h1, h2, h3, h4⟩ := stkF_ok hN hg few plain ys m
  have h4 := h4 hm
  unfold formF
  generalize stkF N great few plain ys m = S at *
  have hl := foldF_len ys S (S.length - 1) (by omega)
  obtain ⟨a1, a2⟩ := foldF_ok (ys := ys) h1 (S.length - 1)
  match h5 : foldF ys S (S.length - 1) with
  | [] => rw [h5] at hl; simp at hl; omega
  | [f] =>
    rw [h5] at a1 a2
    refine ⟨a1 f (by simp), ?_, rfl⟩
    have : sdp [f] = f.dp := by show f.dp + 0 = f.dp; omega
    show f.dp ≤ m
    omega
  | f :: g :: r => rw [h5] at hl; simp at hl; omega
theorem da_snoc {K : PySem.W.Frag} {H : Hp} {d : PyData} : ∀ {ds : List PyData} {vs : List V}, DaAll K H vs (ds ++ [d]) → ∃ us v, vs = us ++ [v] ∧ DaAll K H us ds ∧ Da K H v d
  | [], vs, h => by
    obtain ⟨v, rfl, r⟩ := h.i1
    exact ⟨[], v, rfl, .nil, r⟩
  | e :: ds, vs, h => by
    cases h with
    | cons a b =>
      obtain ⟨us, v, rfl, r1, r2⟩ := da_snoc b
      exact ⟨_ :: us, v, rfl, .cons a r1, r2⟩
/-- a stack of trees (top first) stands at l, made after H0 -/
def Stk (K : PySem.W.Frag) (H0 : Hp) (l : Addr) (S : List Fm) (H : Hp) : Prop := H0 l = none ∧ Ex H0 H ∧ ∃ vs, H l = some (.lst vs) ∧ DaAll K H vs (S.reverse.map Fm.d)
section
variable {K : PySem.W.Frag} {H0 H H' : Hp} {l : Addr} {S : List Fm} {f : Fm}
theorem Stk.ex (h : Stk K H0 l S H) (e : Ex H H') : Stk K H0 l S H' := by
  obtain ⟨h1, h2, vs, h3, h4⟩ := h
  exact ⟨h1, h2.trans e, vs, e _ _ h3, h4.mono e⟩
theorem Stk.pop (h : Stk K H0 l (f :: S) H) : ∃ vs v, H l = some (.lst (vs ++ [v])) ∧ ∀ H1, Ex H H1 → Stk K H0 l S (upd H1 l (.lst vs)) ∧ Da K (upd H1 l (.lst vs)) v f.d := by
  obtain ⟨h1, h2, vs, h3, h4⟩ := h
  rw [List.reverse_cons, List.map_append] at h4
  obtain ⟨us, v, rfl, r1, r2⟩ := da_snoc h4
  refine ⟨us, v, h3, fun H1 e => ?_⟩
  have m : NEx H1 (upd H1 l (.lst us)) := NEx.upd (e _ _ h3)
  exact ⟨⟨h1, Ex.mut (h2.trans e) h1, us, upd_same, (r1.mono e).tmono m (noLs_map Fm.noL _)⟩, (r2.mono e).tmono m f.noL⟩
theorem Stk.app (h : Stk K H0 l S H) : ∃ vs, H l = some (.lst vs) ∧ vs.length = S.length ∧ ∀ (f : Fm) v H1, Ex H H1 → Da K H1 v f.d → Stk K H0 l (f :: S) (upd H1 l (.lst (vs ++ [v]))) := by
  obtain ⟨h1, h2, vs, h3, h4⟩ := h
  refine ⟨vs, h3, by rw [h4.length]; simp, fun f v H1 e r => ?_⟩
  have m : NEx H1 (upd H1 l (.lst (vs ++ [v]))) := NEx.upd (e _ _ h3)
  refine ⟨h1, Ex.mut (h2.trans e) h1, vs ++ [v], upd_same, ?_⟩
  rw [List.reverse_cons, List.map_append]
  exact ((h4.mono e).tmono m (noLs_map Fm.noL _)).append (.cons (r.tmono m f.noL) .nil)
/-- data behind a pop or an append: what stood before l stands -/
theorem Stk.base (h : Stk K H0 l S H) : Ex H0 H := h.2.1
end
theorem nt_at {ys : List Nat} {i : Nat} (h : i < ys.length) : (ntD ys)[i]? = some (.int ((ys.getD i 0 : Nat) : Int)) := by
  unfold ntD
  rw [List.getElem?_map, List.getElem?_eq_getElem h, List.getD_eq_getElem?_getD, List.getElem?_eq_getElem h] <;> rfl
section
variable {P : Program} {w : World} {K : PySem.W.Frag} {mg : Str → Option Value} {base : Heap}
abbrev s__law_formula : Stmt := topS 51
abbrev N__law_formula : List Str := ["_law_draws_here", "_law_names_here", "_law_great", "_law_few", "_law_plain", "_law_unary", "_law_binary", "_law_stack", "_law_k", "_law_choice", "_law_second", "_law_first"]
theorem sc__law_formula : FnScope N__law_formula ["_law_draws_here", "_law_names_here", "_law_great", "_law_few", "_law_plain"] (defScope s__law_formula) := ⟨rfl, rfl, rfl, by decide +kernel, rfl, by decide +kernel, by decide +kernel⟩
def R_formula : Rl := fun ds d => ∃ (N : List Str) (great : Int) (few : Bool) (plain : Nat) (ys : List Nat) (m : Nat), ds = [.list (ntD ys), .list (N.map PyData.str), .int great, .bool few, .int (plain : Nat)] ∧ 0 < N.length ∧ Gt great ∧ ys.length = 3 * m ∧ 0 < m ∧ m ≤ 100 ∧ d = (formF N great few plain ys m).d
theorem ok_formula (Z_int : mg "int" = none) (Z_len : mg "len" = none) (Z_range : mg "range" = none) (G__law_leaf : FnAt P w K mg base 2 "_law_leaf" ["_law_one", "_law_two", "_law_names_here", "_law_great", "_law_few", "_law_plain"] (spR K R_leaf))
    (D : Def K mg "_law_formula" s__law_formula ["_law_draws_here", "_law_names_here", "_law_great", "_law_few", "_law_plain"]) : FnAt P w K mg base 3 "_law_formula" ["_law_draws_here", "_law_names_here", "_law_great", "_law_few", "_law_plain"] (spR K R_formula) := by
  refine D.ok sc__law_formula (fun ds d ⟨N, g, few, plain, ys, m, h, _⟩ => by rw [h] <;> rfl) fun f0 cdv A0 outer s H vs Q E ds d hr hv hR q => ?_
  obtain ⟨N, g, few, plain, ys, m, rfl, hN, hg, hys, hm, hm100, rfl⟩ := hR
  obtain ⟨v0, v1, v2, v3, v4, rfl, h0, h1, h2, h3, h4⟩ := hv.i5
  obtain rfl := h2.int_inv
  obtain rfl := h3.bl_inv
  obtain rfl := h4.int_inv
  refine ⟨_, (pss_cons (ps_set (i := 5) sc__law_formula.nd rfl (by first | exact Or.inl rfl | exact Or.inr rfl) (pe_lst (pa_cons pe_str (pa_cons pe_str (pa_cons pe_str (pa_cons pe_str (pa_cons pe_str (pa_cons pe_str pa_nil))))))))
      (pss_cons (ps_set (i := 6) sc__law_formula.nd rfl (by first | exact Or.inl rfl | exact Or.inr rfl) (pe_lst (pa_cons pe_str (pa_cons pe_str (pa_cons pe_str (pa_cons pe_str (pa_cons pe_str (pa_cons pe_str (pa_cons pe_str (pa_cons pe_str pa_nil))))))))))
      (pss_cons (ps_set (i := 7) sc__law_formula.nd rfl (by first | exact Or.inl rfl | exact Or.inr rfl) (pe_lst pa_nil))
      (pss_cons (ps_for PassesOwn.never rfl (pi_range1 (by rfl) Z_range (pa_cons (pe_op op_fdiv (pe_callB call_lenS (by rfl) Z_len PySem.boot_len (pa_cons (pv 0) pa_nil)) pe_int) pa_nil)) (pg_name (i := 8) sc__law_formula.nd rfl (by first | exact Or.inl rfl | exact Or.inr rfl)) (pss_cons (ps_set (i := 9) sc__law_formula.nd rfl (by first | exact Or.inl rfl | exact Or.inr rfl) (pe_op op_mod (pe_callTy call_intS (by rfl) Z_int bt_int (pa_cons (pe_ix ix_list (pv 0) (pe_op op_mul pe_int (pv 8)) (fun _ _ => rfl)) pa_nil)) pe_int))
      (pss_one (ps_if (PW.pt (pw_and (pt_cmpR op_ge (pv 9) pe_int (nomark _)) (pw_and1 (pt_cmpR op_gt (pe_callB call_lenS (by rfl) Z_len PySem.boot_len (pa_cons (pv 7) pa_nil)) pe_int (nomark _))))) (pss_cons (ps_set (i := 10) sc__law_formula.nd rfl (by first | exact Or.inl rfl | exact Or.inr rfl) (pe_bm0 PySem.F.plainAttrs_list PySem.F.slot_list_pop PySem.F.type_list_pop mt_pop (pv 7)))
      (pss_cons (ps_set (i := 11) sc__law_formula.nd rfl (by first | exact Or.inl rfl | exact Or.inr rfl) (pe_bm0 PySem.F.plainAttrs_list PySem.F.slot_list_pop PySem.F.type_list_pop mt_pop (pv 7)))
      (pss_one (ps_expr (pe_bm PySem.F.plainAttrs_list PySem.F.slot_list_append PySem.F.type_list_append mt_append (pv 7) (pa_cons (pe_tup (pa_cons (pe_ix ix_list (pv 6) (pe_op op_sub (pv 9) pe_int) (fun _ _ => rfl)) (pa_cons (pv 11) (pa_cons (pv 10) pa_nil)))) pa_nil)))))) (pss_one (ps_if (PW.pt (pw_and (pt_cmpR op_le pe_int (pv 9) (nomark _)) (pw_and (pt_cmpR op_lt (pv 9) pe_int (nomark _)) (pw_and1 (pt_cmpR op_gt (pe_callB call_lenS (by rfl) Z_len PySem.boot_len (pa_cons (pv 7) pa_nil)) pe_int (nomark _)))))) (pss_cons (ps_set (i := 11) sc__law_formula.nd rfl (by first | exact Or.inl rfl | exact Or.inr rfl) (pe_bm0 PySem.F.plainAttrs_list PySem.F.slot_list_pop PySem.F.type_list_pop mt_pop (pv 7)))
      (pss_one (ps_expr (pe_bm PySem.F.plainAttrs_list PySem.F.slot_list_append PySem.F.type_list_append mt_append (pv 7) (pa_cons (pe_tup (pa_cons (pe_ix ix_list (pv 5) (pe_op op_sub (pv 9) pe_int) (fun _ _ => rfl)) (pa_cons (pv 11) pa_nil))) pa_nil))))) (pss_one (ps_expr (pe_bm PySem.F.plainAttrs_list PySem.F.slot_list_append PySem.F.type_list_append mt_append (pv 7) (pa_cons (pe_callX G__law_leaf hr (pa_cons (pe_ix ix_list (pv 0) (pe_op op_add (pe_op op_mul pe_int (pv 8)) pe_int) (fun _ _ => rfl)) (pa_cons (pe_ix ix_list (pv 0) (pe_op op_add (pe_op op_mul pe_int (pv 8)) pe_int) (fun _ _ => rfl)) (pa_cons (pv 1) (pa_cons (pv 2) (pa_cons (pv 3) (pa_cons (pv 4) pa_nil))))))) pa_nil))))))))))
      (pss_cons (ps_for PassesOwn.never rfl (pi_range1 (by rfl) Z_range (pa_cons (pe_op op_sub (pe_callB call_lenS (by rfl) Z_len PySem.boot_len (pa_cons (pv 7) pa_nil)) pe_int) pa_nil)) (pg_name (i := 8) sc__law_formula.nd rfl (by first | exact Or.inl rfl | exact Or.inr rfl)) (pss_cons (ps_set (i := 10) sc__law_formula.nd rfl (by first | exact Or.inl rfl | exact Or.inr rfl) (pe_bm0 PySem.F.plainAttrs_list PySem.F.slot_list_pop PySem.F.type_list_pop mt_pop (pv 7)))
      (pss_cons (ps_set (i := 11) sc__law_formula.nd rfl (by first | exact Or.inl rfl | exact Or.inr rfl) (pe_bm0 PySem.F.plainAttrs_list PySem.F.slot_list_pop PySem.F.type_list_pop mt_pop (pv 7)))
      (pss_one (ps_expr (pe_bm PySem.F.plainAttrs_list PySem.F.slot_list_append PySem.F.type_list_append mt_append (pv 7) (pa_cons (pe_tup (pa_cons (pe_ix ix_list (pv 6) (pe_op op_mod (pe_callTy call_intS (by rfl) Z_int bt_int (pa_cons (pe_ix ix_list (pv 0) (pv 8) (fun _ _ => rfl)) pa_nil)) pe_int) (fun _ _ => rfl)) (pa_cons (pv 11) (pa_cons (pv 10) pa_nil)))) pa_nil)))))))
      (pss_one (ps_ret (pe_ix ix_list (pv 7) pe_int (fun _ _ => rfl))))))))), ?_⟩
  try dsimp only [cxOf]
  obtain ⟨S1, S2, S3, S4⟩ := stkF_ok hN hg few plain ys m
  obtain ⟨F1, F2, F3⟩ := formF_ok hN hg few plain ys hm
  refine b_asgD (d := .list unWs) (K := K) (Ex.refl H) (e_lst (K27.ea_cons (e_str ev_c) (K27.ea_cons (e_str ev_c) (K27.ea_cons (e_str ev_c) (K27.ea_cons (e_str ev_c) (K27.ea_cons (e_str ev_c) (K27.ea_cons (e_str ev_c) K27.ea_nil)))))) (by decide)) fun v5 H1 e1 r5 => ?_
  refine b_asgD (d := .list biWs) (K := K) (Ex.refl H1) (e_lst (K27.ea_cons (e_str ev_c) (K27.ea_cons (e_str ev_c) (K27.ea_cons (e_str ev_c) (K27.ea_cons (e_str ev_c) (K27.ea_cons (e_str ev_c) (K27.ea_cons (e_str ev_c) (K27.ea_cons (e_str ev_c) (K27.ea_cons (e_str ev_c) K27.ea_nil)))))))) (by decide)) fun v6 H2 e2 r6 => ?_
  have e02 := e1.trans e2
  have d0 := h0.mono e02
  have d1 := h1.mono e02
  have d5 := r5.mono e2
  refine b_asgL (Ex.refl H2) (l_lst (K := K) K27.ea_nil (by simp)) fun l xs0 H3 hl e3 hl3 r7 => ?_
  cases r7
  have T0 : Stk K H2 l [] H3 := ⟨hl, e3, [], hl3, .nil⟩
  have hlen : (ntD ys).length = 3 * m := by unfold ntD; rw [List.length_map, hys]
  show tSeq _ _ _ [some v0, some v1, some (.int g), some (.bl few), some (.int (plain : Nat)), some v5, some v6, some (.ref l), none, none, none, none] H3
  refine q_forR1 (n := (m : Int)) (Evl.ea_cons (ev_is (ev_op (ev_lenD (.inl (e_var rfl (d0.mono e3)))) ev_c (rv_I (by unfold CDiv; decide))) (congrArg V.int (by rw [hlen]; omega))) Evl.ea_nil) (by omega) (fun k σ' H' => (∃ o8 o9 o10 o11, σ' = [some v0, some v1, some (.int g), some (.bl few), some (.int (plain : Nat)), some v5, some v6, some (.ref l), o8, o9, o10, o11]) ∧ Stk K H2 l (stkF N g few plain ys k) H') (fun H4 e4 => ⟨⟨none, none, none, none, rfl⟩, T0.ex e4⟩) ?_ ?_
  · rintro k σ' H4 hk ⟨⟨o8, o9, o10, o11, rfl⟩, T⟩
    have hk' : k < m := by omega
    show tSeq _ _ _ [some v0, some v1, some (.int g), some (.bl few), some (.int (plain : Nat)), some v5, some v6, some (.ref l), some (.int (k : Int)), o9, o10, o11] H4
    obtain ⟨_, _, hSl, _⟩ := stkF_ok hN hg few plain ys k
    have ixd : ∀ (i : Nat) (te : TE) (σ : L2.St) H', i < 3 * m → Ex H2 H' → σ[0]? = some (some v0) → Ev te σ H' (.int (i : Int)) → Ev (tOp (rIxL K) (tVar 0) te) σ H' (.int ((ys.getD i 0 : Nat) : Int)) := fun i te σ H' hi e s0 h => ev_int (e_ixL (e_var s0 (d0.mono e)) h (atI_nat (nt_at (by omega))))
    have sk1 : stkF N g few plain ys (k + 1) = stepF N g few plain (ys.getD (3 * k) 0 % 24) (ys.getD (3 * k + 1) 0) (ys.getD (3 * k + 2) 0) (stkF N g few plain ys k) := rfl
    refine b_asg (v := .int ((ys.getD (3 * k) 0 % 24 : Nat) : Int)) (Ex.refl H4) (ev_md 24 (ixd (3 * k) _ _ _ (by omega) T.base rfl (ev_is (ev_op ev_c (ev_var rfl) (rv_I (.inl (by decide)))) (congrArg V.int (by omega)))) rfl (by decide)) fun H5 e5 => ?_
    have T5 := T.ex e5
    rw [sk1]
    generalize hch : ys.getD (3 * k) 0 % 24 = ch at *
    have hch24 : ch < 24 := by omega
    generalize hS : stkF N g few plain ys k = S at *
    show tIfS _ _ _ _ [some v0, some v1, some (.int g), some (.bl few), some (.int (plain : Nat)), some v5, some v6, some (.ref l), some (.int (k : Int)), some (.int (ch : Int)), o10, o11] H5
    obtain ⟨us5, hus5, hul5, _⟩ := T5.app
    have tlen : ∀ (σ : L2.St), σ[7]? = some (some (.ref l)) → Ev (tCB (rLenS K) (tCons (tVar 7) tNil)) σ H5 (.int (S.length : Int)) := fun σ s7 => ev_is (ev_len (ev_var s7) (sq_of hus5)) (by rw [hul5])
    by_cases c16 : 16 ≤ ch ∧ 1 < S.length
    · refine b_yes1 (Ex.refl H5) (et_and (et_test (ev_op (ev_var rfl) ev_c rv_I0)) fun _ => et_test (ev_op (tlen _ rfl) ev_c rv_I0)) (and2t (by omega)) fun H6 e6 => ?_
      obtain ⟨g2, f2, r, rfl⟩ : ∃ a b c, S = a :: b :: c := by
        match S, c16.2 with
        | a :: b :: c, _ => exact ⟨a, b, c, rfl⟩
      · have T6 := T5.ex e6
        obtain ⟨us, v, hu, hpop⟩ := T6.pop
        refine b_pop hu (ev_var rfl) fun H7 e7 => ?_
        obtain ⟨T7, dv⟩ := hpop H7 e7
        generalize upd H7 l (.lst us) = H8 at T7 dv
        obtain ⟨us2, v', hu2, hpop2⟩ := T7.pop
        refine b_pop hu2 (ev_var rfl) fun H9 e9 => ?_
        obtain ⟨T9, dv'⟩ := hpop2 H9 e9
        have dv9 : Da K (upd H9 l (.lst us2)) v g2.d := (dv.mono e9).tmono (NEx.upd (e9 _ _ hu2)) g2.noL
        generalize upd H9 l (.lst us2) = H10 at T9 dv' dv9
        obtain ⟨us3, hu3, hul3, happ⟩ := T9.app
        refine b_app1 hu3 (ev_var rfl) (e_tup (K27.ea_cons (e_ixL (e_var rfl (r6.mono T9.base)) (ev_is (ev_op (ev_var rfl) ev_c rv_I0) (congrArg V.int (show (ch : Int) - 16 = ((ch - 16 : Nat) : Int) by omega))) (atI_nat (bi_at (i := ch - 16) (by omega)))) (K27.ea_cons (e_var rfl dv') (K27.ea_cons (e_var rfl dv9) K27.ea_nil))) (by simp)) (by simp at hSl hul3; omega) fun v3 H11 e11 r11 => ?_
        refine ⟨⟨_, _, _, _, rfl⟩, ?_⟩
        have es : stepF N g few plain ch (ys.getD (3 * k + 1) 0) (ys.getD (3 * k + 2) 0) (g2 :: f2 :: r) = .bi (biF (ch - 16)) f2 g2 :: r := if_pos c16
        rw [es]
        exact happ (.bi (biF (ch - 16)) f2 g2) v3 H11 e11 r11
    refine b_no1 (Ex.refl H5) (et_and (et_test (ev_op (ev_var rfl) ev_c rv_I0)) fun _ => et_test (ev_op (tlen _ rfl) ev_c rv_I0)) (and2 (by omega)) fun H6 e6 => ?_
    have tlen6 : ∀ (σ : L2.St), σ[7]? = some (some (.ref l)) → Ev (tCB (rLenS K) (tCons (tVar 7) tNil)) σ H6 (.int (S.length : Int)) := fun σ s7 => (tlen σ s7).mono e6
    by_cases c10 : (10 ≤ ch ∧ ch < 16) ∧ 0 < S.length
    · refine b_yes1 (Ex.refl H6) (et_and (et_test (ev_op ev_c (ev_var rfl) rv_I0)) fun _ => et_and (et_test (ev_op (ev_var rfl) ev_c rv_I0)) fun _ => et_test (ev_op (tlen6 _ rfl) ev_c rv_I0)) (and3t (by omega)) fun H7 e7 => ?_
      obtain ⟨f2, r, rfl⟩ : ∃ b c, S = b :: c := by
        match S, c10.2 with
        | b :: c, _ => exact ⟨b, c, rfl⟩
      · have T7 := T5.ex (e6.trans e7)
        obtain ⟨us, v, hu, hpop⟩ := T7.pop
        refine b_pop hu (ev_var rfl) fun H8 e8 => ?_
        obtain ⟨T8, dv⟩ := hpop H8 e8
        generalize upd H8 l (.lst us) = H9 at T8 dv
        obtain ⟨us3, hu3, hul3, happ⟩ := T8.app
        refine b_app1 hu3 (ev_var rfl) (e_tup (K27.ea_cons (e_ixL (e_var rfl (d5.mono T8.base)) (ev_is (ev_op (ev_var rfl) ev_c rv_I0) (congrArg V.int (show (ch : Int) - 10 = ((ch - 10 : Nat) : Int) by omega))) (atI_nat (un_at (i := ch - 10) (by omega)))) (K27.ea_cons (e_var rfl dv) K27.ea_nil)) (by simp)) (by simp at hSl hul3; omega) fun v3 H11 e11 r11 => ?_
        refine ⟨⟨_, _, _, _, rfl⟩, ?_⟩
        have es : stepF N g few plain ch (ys.getD (3 * k + 1) 0) (ys.getD (3 * k + 2) 0) (f2 :: r) = .un (unF (ch - 10)) f2 :: r := by
          unfold stepF
          rw [if_neg c16, if_pos c10]
        rw [es]
        exact happ (.un (unF (ch - 10)) f2) v3 H11 e11 r11
    refine b_no1 (Ex.refl H6) (et_and (et_test (ev_op ev_c (ev_var rfl) rv_I0)) fun _ => et_and (et_test (ev_op (ev_var rfl) ev_c rv_I0)) fun _ => et_test (ev_op (tlen6 _ rfl) ev_c rv_I0)) (and3 (by omega)) fun H7 e7 => ?_
    have T7 := T5.ex (e6.trans e7)
    obtain ⟨us3, hu3, hul3, happ⟩ := T7.app
    refine b_app1 hu3 (ev_var rfl) (e_call (ds := [.int ((ys.getD (3 * k + 1) 0 : Nat) : Int), .int ((ys.getD (3 * k + 2) 0 : Nat) : Int), .list (N.map PyData.str), .int g, .bool few, .int (plain : Nat)]) (K27.ea_cons (e_int (ixd (3 * k + 1) _ _ _ (by omega) T7.base rfl (ev_is (ev_op (ev_op ev_c (ev_var rfl) (rv_I (.inl (by decide)))) ev_c rv_I0) (congrArg V.int (by omega))))) (K27.ea_cons (e_int (ixd (3 * k + 2) _ _ _ (by omega) T7.base rfl (ev_is (ev_op (ev_op ev_c (ev_var rfl) (rv_I (.inl (by decide)))) ev_c rv_I0) (congrArg V.int (by omega))))) (K27.ea_cons (e_var rfl (d1.mono T7.base)) (K27.ea_cons (e_int (ev_var rfl)) (K27.ea_cons (e_bl (ev_var rfl)) (K27.ea_cons (e_int (ev_var rfl)) K27.ea_nil)))))) ⟨N, g, few, plain, _, _, rfl, hN, rfl⟩) (by omega) fun v3 H11 e11 r11 => ?_
    refine ⟨⟨_, _, _, _, rfl⟩, ?_⟩
    have es : stepF N g few plain ch (ys.getD (3 * k + 1) 0) (ys.getD (3 * k + 2) 0) S = leafF N g few plain (ys.getD (3 * k + 1) 0) (ys.getD (3 * k + 2) 0) :: S := by
      unfold stepF
      rw [if_neg c16, if_neg c10]
    rw [es]
    exact happ _ v3 H11 e11 r11
  · rintro σ' H4 ⟨⟨o8, o9, o10, o11, rfl⟩, T⟩
    rw [Int.toNat_natCast] at T
    obtain ⟨us4, hus4, hul4, _⟩ := T.app
    have S4 := S4 hm
    generalize stkF N g few plain ys m = S at *
    refine q_forR1 (n := ((S.length - 1 : Nat) : Int)) (Evl.ea_cons (ev_is (ev_op (ev_len (ev_var rfl) (sq_of hus4)) ev_c rv_I0) (congrArg V.int (by omega))) Evl.ea_nil) (by omega) (fun k σ' H' => (∃ o8 o9 o10 o11, σ' = [some v0, some v1, some (.int g), some (.bl few), some (.int (plain : Nat)), some v5, some v6, some (.ref l), o8, o9, o10, o11]) ∧ Stk K H2 l (foldF ys S k) H') (fun H5 e5 => ⟨⟨o8, o9, o10, o11, rfl⟩, T.ex e5⟩) ?_ ?_
    · rintro k σ' H5 hk ⟨⟨o8, o9, o10, o11, rfl⟩, T⟩
      have hfl := foldF_len ys S k (by omega)
      show tSeq _ _ _ [some v0, some v1, some (.int g), some (.bl few), some (.int (plain : Nat)), some v5, some v6, some (.ref l), some (.int (k : Int)), o9, o10, o11] H5
      have fs : foldF ys S (k + 1) = match foldF ys S k with
        | g :: f :: r => Fm.bi (biF (ys.getD k 0 % 8)) f g :: r
        | S => S := rfl
      match hff : foldF ys S k with
      | [] => rw [hff] at hfl; simp at hfl; omega
      | [a] => rw [hff] at hfl; simp at hfl; omega
      | g2 :: f2 :: r =>
        rw [hff] at T fs hfl
        obtain ⟨us, v, hu, hpop⟩ := T.pop
        refine b_pop hu (ev_var rfl) fun H7 e7 => ?_
        obtain ⟨T7, dv⟩ := hpop H7 e7
        generalize upd H7 l (.lst us) = H8 at T7 dv
        obtain ⟨us2, v', hu2, hpop2⟩ := T7.pop
        refine b_pop hu2 (ev_var rfl) fun H9 e9 => ?_
        obtain ⟨T9, dv'⟩ := hpop2 H9 e9
        have dv9 : Da K (upd H9 l (.lst us2)) v g2.d := (dv.mono e9).tmono (NEx.upd (e9 _ _ hu2)) g2.noL
        generalize upd H9 l (.lst us2) = H10 at T9 dv' dv9
        obtain ⟨us3, hu3, hul3, happ⟩ := T9.app
        have ixd : Ev (tOp (rIxL K) (tVar 0) (tVar 8)) [some v0, some v1, some (.int g), some (.bl few), some (.int (plain : Nat)), some v5, some v6, some (.ref l), some (.int (k : Int)), o9, some v, some v'] H10 (.int ((ys.getD k 0 : Nat) : Int)) := ev_int (e_ixL (e_var rfl (d0.mono T9.base)) (ev_var rfl) (atI_nat (nt_at (by omega))))
        refine b_app1 hu3 (ev_var rfl) (e_tup (K27.ea_cons (e_ixL (e_var rfl (r6.mono T9.base)) (ev_md 8 ixd rfl (by decide)) (atI_nat (bi_at (i := ys.getD k 0 % 8) (by omega)))) (K27.ea_cons (e_var rfl dv') (K27.ea_cons (e_var rfl dv9) K27.ea_nil))) (by simp)) (by simp at hfl; omega) fun v3 H11 e11 r11 => ?_
        refine ⟨⟨_, _, _, _, rfl⟩, ?_⟩
        rw [fs]
        exact happ (.bi (biF (ys.getD k 0 % 8)) f2 g2) v3 H11 e11 r11
    · rintro σ' H5 ⟨⟨o8, o9, o10, o11, rfl⟩, T⟩
      rw [Int.toNat_natCast, F3] at T
      obtain ⟨_, hb, us, hus, hd⟩ := T
      exact b_ret (Ex.refl H5) (e_ixL (ds := [(formF N g few plain ys m).d]) (e_var rfl (.lst hus hd)) ev_c at0) fun v H6 e6 => q v H6 (e02.trans (hb.trans e6))
end
end K27

/-! K27: the law's formula from the script; the law's states. -/
namespace K27
open PySem PySem.Spec PyProof.Rows L2 Evl
local macro_rules | `(tactic| walk_at "ev") => `(tactic| first
  | exact ev_c
  | exact ev_var rfl
  | (refine' et_test ?h; (case h => walk_at "ev"))
  | (refine' et_B ?h; (case h => walk_at "ev"))
  | (refine' et_not ?h; (case h => walk_at "ev"))
  | (refine' et_and ?a (fun _ => ?b); (case a => walk_at "ev"); (case b => walk_at "ev"))
  | (refine' et_or ?a (fun _ => ?b); (case a => walk_at "ev"); (case b => walk_at "ev"))
  | (refine' ev_op ?a ?b (rv_eq ?c); (case a => walk_at "ev"); (case b => walk_at "ev"); (case c => rfl))
  | (refine' ev_op ?a ?b rv_I0; (case a => walk_at "ev"); (case b => walk_at "ev"))
  | (refine' ev_inU ?a ?b ?c ?d; (case a => walk_at "ev"); (case b => (refine' eu_tup ?x ?y; (case x => walk_at "ev"); (case y => decide))); (case c => rfl); (case d => rfl))
  | (refine' ev_str (e_ixT ?a ?b ?c); (case a => walk_at "ed"); (case b => walk_at "ev"); (case c => first | exact at0 | exact at1 | exact at2))
  | (refine' ev_int (e_ixT ?a ?b ?c); (case a => walk_at "ed"); (case b => walk_at "ev"); (case c => first | exact at0 | exact at1 | exact at2))
  | exact Evl.ea_nil
  | (refine' Evl.ea_cons ?a ?b; (case a => walk_at "ev"); (case b => walk_at "ev")))
local macro_rules | `(tactic| walk_at "ed") => `(tactic| first
  | exact e_var rfl (by assumption)
  | exact e_var rfl (by constructor)
  | exact K27.ea_nil
  | (refine' K27.ea_cons ?a ?b; (case a => walk_at "ed"); (case b => walk_at "ed"))
  | (refine' e_tup ?a ?b; (case a => walk_at "ed"); (case b => (simp only [List.length_cons, List.length_nil, List.length_append]; omega)))
  | (refine' e_ixT ?a ?b ?c; (case a => walk_at "ed"); (case b => walk_at "ev"); (case c => first | exact at0 | exact at1 | exact at2))
  | (refine' e_ev ?a ?b; (case a => walk_at "ev"); (case b => first | exact .str _ | exact .int _ | exact .bl _ | assumption)))
def dNs (ns : List Int) (a c : Nat) : List Nat := (draws ns a c).map Int.toNat
theorem dNs_len (ns : List Int) (a c : Nat) : (dNs ns a c).length = c := by unfold dNs; rw [List.length_map, draws_len]
theorem dNs_data (ns : List Int) (a c : Nat) : (draws ns a c).map PyData.int = ntD (dNs ns a c) := by
  unfold ntD dNs
  rw [List.map_map]
  refine List.map_congr_left fun x hx => ?_
  have := (draws_bd hx).1
  show PyData.int x = PyData.int ((x.toNat : Nat) : Int)
  rw [Int.toNat_of_nonneg this]
def grF (c : Int) : Int := c % 999999999999999998
theorem grF_ok (c : Int) : Gt (grF c) := by unfold Gt grF; omega
def ch8 (c : Int) : Nat := (c % 8).toNat
def plF : Nat → Nat
  | 0 => 1
  | 1 => 0
  | 2 => 2
  | _ => 4
def fewF (c : Int) : Bool := decide (ch8 c / 4 = 0)
def someF (ns : List Int) (N : List Str) (a m : Nat) : Fm := formF N (grF (cellF ns (a + 1))) (fewF (cellF ns (a + 2))) (plF (ch8 (cellF ns (a + 2)) % 4)) (dNs ns a (3 * m)) m
def worthF (great : Int) (dr : Nat) : Int := if dr / 5 % 16 = 1 then (if dr / 80 % 2 = 0 then great else 0 - great) else ((dr % 5 : Nat) : Int) - 1
def stF (N : List Str) (great : Int) (ys : List Nat) (k : Nat) : List Int := (List.range N.length).map fun j => worthF great (ys.getD (k * N.length + j) 0)
def statesF (N : List Str) (great : Int) (ys : List Nat) (n : Nat) : List (List Int) := (List.range n).map (stF N great ys)
theorem worthF_bd {great : Int} (hg : Gt great) (dr : Nat) : -(2 ^ 64) < worthF great dr ∧ worthF great dr < 2 ^ 64 := by
  unfold Gt at hg
  unfold worthF
  split
  · split <;> omega
  · omega
theorem stF_ok {N : List Str} {great : Int} (hg : Gt great) (ys : List Nat) (k : Nat) : StOk N (stF N great ys k) := by
  refine ⟨by unfold stF; simp, fun i hi => ?_⟩
  unfold stF at hi
  obtain ⟨j, _, rfl⟩ := List.mem_map.mp hi
  exact worthF_bd hg _
theorem statesF_len (N : List Str) (great : Int) (ys : List Nat) (n : Nat) : (statesF N great ys n).length = n := by unfold statesF; simp
section
variable {P : Program} {w : World} {K : PySem.W.Frag} {mg : Str → Option Value} {base : Heap}
theorem e_catA {σ : L2.St} {H : Hp} {ta tb : TE} {ds es : List PyData} (h : E K ta σ H (.tuple ds)) (h' : E K tb σ H (.tuple es)) (hz : ds.length + es.length ≤ 100000) : E K (tOp (rCatA K) ta tb) σ H (.tuple (ds ++ es)) := fun H1 e _ q =>
  h H1 e _ fun v H2 e2 r => h' H2 (e.trans e2) _ fun w H3 e3 r' => by
    obtain ⟨a, xs, rfl, hs, hx⟩ := r.tup_inv
    obtain ⟨c, ys, rfl, hs', hy⟩ := r'.tup_inv
    refine ⟨a, c, xs, ys, rfl, rfl, ex_t e3 hs, hs', by rw [hx.length, hy.length]; exact sz_of hz, fun z => ?_, fun _ z => ?_, fun _ _ p hp => ?_⟩
    · subst z
      cases hx
      exact q _ H3 (e2.trans e3) (.tup hs' hy)
    · subst z
      cases hy
      rw [List.append_nil] at q
      exact q _ H3 (e2.trans e3) (.tup (ex_t e3 hs) (hx.mono e3))
    · exact q _ _ ((e2.trans e3).trans (Ex.new hp)) (.tup (st_of upd_same) (((hx.mono e3).append hy).mono (Ex.new hp)))
abbrev s__law_some : Stmt := topS 52
abbrev N__law_some : List Str := ["_law_script", "_law_first", "_law_names_here", "_law_many", "_law_great", "_law_choice"]
theorem sc__law_some : FnScope N__law_some ["_law_script", "_law_first", "_law_names_here", "_law_many"] (defScope s__law_some) := ⟨rfl, rfl, rfl, by decide +kernel, rfl, by decide +kernel, by decide +kernel⟩
def R_some : Rl := fun ds d => ∃ (ns : List Int) (N : List Str) (a m : Nat), ds = [scrD ns, .int (a : Nat), .list (N.map PyData.str), .int (m : Nat)] ∧ 0 < N.length ∧ 0 < m ∧ m ≤ 100 ∧ d = (someF ns N a m).d
theorem ok_some (Z_int : mg "int" = none) (G__law_cell : FnAt P w K mg base 1 "_law_cell" ["_law_script", "_law_k"] (spR K R_cell)) (G__law_draws : FnAt P w K mg base 2 "_law_draws" ["_law_script", "_law_first", "_law_count"] (spN K R_draws))
    (G__law_formula : FnAt P w K mg base 3 "_law_formula" ["_law_draws_here", "_law_names_here", "_law_great", "_law_few", "_law_plain"] (spR K R_formula)) (D : Def K mg "_law_some" s__law_some ["_law_script", "_law_first", "_law_names_here", "_law_many"]) :
    FnAt P w K mg base 4 "_law_some" ["_law_script", "_law_first", "_law_names_here", "_law_many"] (spR K R_some) := by
  refine D.ok sc__law_some (fun ds d ⟨ns, N, a, m, h, _⟩ => by rw [h] <;> rfl) fun f0 cdv A0 outer s H vs Q E ds d hr hv hR q => ?_
  obtain ⟨ns, N, a, m, rfl, hN, hm, hm100, rfl⟩ := hR
  obtain ⟨v0, v1, v2, v3, rfl, h0, h1, h2, h3⟩ := hv.i4
  obtain rfl := h1.int_inv
  obtain rfl := h3.int_inv
  refine ⟨_, (pss_cons (ps_set (i := 4) sc__law_some.nd rfl (by first | exact Or.inl rfl | exact Or.inr rfl) (pe_op op_mod (pe_callTy call_intS (by rfl) Z_int bt_int (pa_cons (pe_callX G__law_cell hr (pa_cons (pv 0) (pa_cons (pe_op op_add (pv 1) pe_int) pa_nil))) pa_nil)) (pe_op op_sub (pe_op op_pow pe_int pe_int) pe_int)))
      (pss_cons (ps_set (i := 5) sc__law_some.nd rfl (by first | exact Or.inl rfl | exact Or.inr rfl) (pe_op op_mod (pe_callTy call_intS (by rfl) Z_int bt_int (pa_cons (pe_callX G__law_cell hr (pa_cons (pv 0) (pa_cons (pe_op op_add (pv 1) pe_int) pa_nil))) pa_nil)) pe_int))
      (pss_one (ps_ret (pe_callX G__law_formula hr (pa_cons (pe_callX G__law_draws hr (pa_cons (pv 0) (pa_cons (pv 1) (pa_cons (pe_op op_mul pe_int (pv 3)) pa_nil)))) (pa_cons (pv 2) (pa_cons (pv 4) (pa_cons (pe_cmpR op_eq (pe_op op_fdiv (pv 5) pe_int) pe_int (nomark _)) (pa_cons (pe_ix ix_list (pe_lst (pa_cons pe_int (pa_cons pe_int (pa_cons pe_int (pa_cons pe_int pa_nil))))) (pe_op op_mod (pv 5) pe_int) (fun _ _ => rfl)) pa_nil)))))))))), ?_⟩
  try dsimp only [cxOf]
  have pw : ∀ (σ : L2.St) H', Ev (tOp (rI0 fun i j => .int (i - j)) (tOp (rI CPow fun i j => .int (i ^ j.toNat)) (tC (.int 10)) (tC (.int 18))) (tC (.int 2))) σ H' (.int 999999999999999998) := fun σ H' => ev_is (ev_op (ev_op ev_c ev_c (rv_I (by unfold CPow; decide))) ev_c rv_I0) (by decide +kernel)
  refine b_asg (v := .int (grF (cellF ns (a + 1)))) (Ex.refl H) (ev_op (ev_int1 (ev_int (e_call (ds := [scrD ns, .int ((a + 1 : Nat) : Int)]) (K27.ea_cons (e_var rfl h0) (K27.ea_cons (e_int (ev_op (ev_var rfl) ev_c rv_I0)) K27.ea_nil)) ⟨ns, a + 1, rfl, rfl⟩))) (pw _ _) (rv_I (by decide))) fun H1 e1 => ?_
  refine b_asg (v := .int (ch8 (cellF ns (a + 2)) : Nat)) e1 (ev_is (ev_op (ev_int1 (ev_int (e_call (ds := [scrD ns, .int ((a + 2 : Nat) : Int)]) (K27.ea_cons (e_var rfl h0) (K27.ea_cons (e_int (ev_op (ev_var rfl) ev_c rv_I0)) K27.ea_nil)) ⟨ns, a + 2, rfl, rfl⟩))) ev_c (rv_I (by decide))) (congrArg V.int (by unfold ch8; omega))) fun H2 e2 => ?_
  have hc8 : ch8 (cellF ns (a + 2)) < 8 := by unfold ch8; omega
  refine b_ret e2 (e_call (ds := [.list (ntD (dNs ns a (3 * m))), .list (N.map PyData.str), .int (grF (cellF ns (a + 1))), .bool (fewF (cellF ns (a + 2))), .int ((plF (ch8 (cellF ns (a + 2)) % 4) : Nat) : Int)]) (K27.ea_cons (EL.e ((l_call (ds := [scrD ns, .int (a : Nat), .int ((3 * m : Nat) : Int)]) (K27.ea_cons (e_var rfl h0) (K27.ea_cons (e_int (ev_var rfl)) (K27.ea_cons (e_int (ev_is (ev_op ev_c (ev_var rfl) (rv_I (.inl (by decide)))) (congrArg V.int (by omega)))) K27.ea_nil))) ⟨ns, a, 3 * m, rfl, by omega, rfl⟩).is (dNs_data ns a (3 * m)))) (K27.ea_cons (e_var rfl h2) (K27.ea_cons (e_int (ev_var rfl)) (K27.ea_cons (e_bl (ev_is (ev_op (ev_op (ev_var rfl) ev_c (rv_I (by unfold CDiv; decide))) ev_c (rv_eq rfl)) (congrArg V.bl ?_))) (K27.ea_cons (e_ixL (ds := [.int 1, .int 0, .int 2, .int 4]) (e_lst (K27.ea_cons (e_int ev_c) (K27.ea_cons (e_int ev_c) (K27.ea_cons (e_int ev_c) (K27.ea_cons (e_int ev_c) K27.ea_nil)))) (by simp)) (ev_is (ev_op (ev_var rfl) ev_c (rv_I (by decide))) (congrArg V.int (show ((ch8 (cellF ns (a + 2)) : Nat) : Int) % 4 = ((ch8 (cellF ns (a + 2)) % 4 : Nat) : Int) by omega))) (atI_nat ?_)) K27.ea_nil))))) ⟨N, _, _, _, _, m, rfl, hN, grF_ok _, dNs_len _ _ _, hm, hm100, rfl⟩) q
  · rw [dec_int2]
    unfold fewF
    by_cases h : ch8 (cellF ns (a + 2)) / 4 = 0
    · rw [decide_eq_true h, decide_eq_true (by omega)]
    · rw [decide_eq_false h, decide_eq_false (by omega)]
  · have h4 : ch8 (cellF ns (a + 2)) % 4 < 4 := by omega
    generalize ch8 (cellF ns (a + 2)) % 4 = c4 at h4
    rcases c4 with _ | _ | _ | _ | c4
    · rfl
    · rfl
    · rfl
    · rfl
    · omega
abbrev s__law_states : Stmt := topS 62
abbrev N__law_states : List Str := ["_law_draws_here", "_law_many", "_law_names_here", "_law_great", "_law_states_here", "_law_k", "_law_state", "_law_j", "_law_draw", "_law_worth"]
theorem sc__law_states : FnScope N__law_states ["_law_draws_here", "_law_many", "_law_names_here", "_law_great"] (defScope s__law_states) := ⟨rfl, rfl, rfl, by decide +kernel, rfl, by decide +kernel, by decide +kernel⟩
def R_states : List PyData → List PyData → Prop := fun ds es => ∃ (N : List Str) (great : Int) (ys : List Nat) (n : Nat), ds = [.list (ntD ys), .int (n : Nat), .list (N.map PyData.str), .int great] ∧ N.length ≤ 100 ∧ n ≤ 1000 ∧ ys.length = n * N.length ∧ es = (statesF N great ys n).map stD
theorem stF_snoc (N : List Str) (great : Int) (ys : List Nat) (n : Nat) : statesF N great ys (n + 1) = statesF N great ys n ++ [stF N great ys n] := by
  unfold statesF
  rw [List.range_succ, List.map_append] <;> rfl
theorem ok_states (Z_int : mg "int" = none) (Z_len : mg "len" = none) (Z_range : mg "range" = none) (D : Def K mg "_law_states" s__law_states ["_law_draws_here", "_law_many", "_law_names_here", "_law_great"]) :
    FnAt P w K mg base 1 "_law_states" ["_law_draws_here", "_law_many", "_law_names_here", "_law_great"] (spN K R_states) := by
  refine D.okN sc__law_states (fun ds d ⟨N, g, ys, n, h, _⟩ => by rw [h] <;> rfl) fun f0 cdv A0 outer s H vs Q E ds es hr hv hR q => ?_
  obtain ⟨N, g, ys, n, rfl, hN, hn, hys, rfl⟩ := hR
  obtain ⟨v0, v1, v2, v3, rfl, h0, h1, h2, h3⟩ := hv.i4
  obtain rfl := h1.int_inv
  obtain rfl := h3.int_inv
  refine ⟨_, (pss_cons (ps_set (i := 4) sc__law_states.nd rfl (by first | exact Or.inl rfl | exact Or.inr rfl) (pe_lst pa_nil))
      (pss_cons (ps_for PassesOwn.never rfl (pi_range1 (by rfl) Z_range (pa_cons (pv 1) pa_nil)) (pg_name (i := 5) sc__law_states.nd rfl (by first | exact Or.inl rfl | exact Or.inr rfl)) (pss_cons (ps_set (i := 6) sc__law_states.nd rfl (by first | exact Or.inl rfl | exact Or.inr rfl) (pe_tup pa_nil))
      (pss_cons (ps_for PassesOwn.never rfl (pi_range1 (by rfl) Z_range (pa_cons (pe_callB call_lenS (by rfl) Z_len PySem.boot_len (pa_cons (pv 2) pa_nil)) pa_nil)) (pg_name (i := 7) sc__law_states.nd rfl (by first | exact Or.inl rfl | exact Or.inr rfl)) (pss_cons (ps_set (i := 8) sc__law_states.nd rfl (by first | exact Or.inl rfl | exact Or.inr rfl) (pe_callTy call_intS (by rfl) Z_int bt_int (pa_cons (pe_ix ix_list (pv 0) (pe_op op_add (pe_op op_mul (pv 5) (pe_callB call_lenS (by rfl) Z_len PySem.boot_len (pa_cons (pv 2) pa_nil))) (pv 7)) (fun _ _ => rfl)) pa_nil)))
      (pss_cons (ps_set (i := 9) sc__law_states.nd rfl (by first | exact Or.inl rfl | exact Or.inr rfl) (pe_op op_sub (pe_op op_mod (pv 8) pe_int) pe_int))
      (pss_cons (ps_if (pt_cmpR op_eq (pe_op op_mod (pe_op op_fdiv (pv 8) pe_int) pe_int) pe_int (nomark _)) (pss_one (ps_set (i := 9) sc__law_states.nd rfl (by first | exact Or.inl rfl | exact Or.inr rfl) (pe_ix ix_list (pe_lst (pa_cons (pv 3) (pa_cons (pe_op op_sub pe_int (pv 3)) pa_nil))) (pe_op op_mod (pe_op op_fdiv (pv 8) pe_int) pe_int) (fun _ _ => rfl)))) pss_nil)
      (pss_one (ps_set (i := 6) sc__law_states.nd rfl (by first | exact Or.inl rfl | exact Or.inr rfl) (pe_op op_catA (pv 6) (pe_tup (pa_cons (pv 9) pa_nil)))))))))
      (pss_one (ps_expr (pe_bm PySem.F.plainAttrs_list PySem.F.slot_list_append PySem.F.type_list_append mt_append (pv 4) (pa_cons (pv 6) pa_nil)))))))
      (pss_one (ps_ret (pv 4))))), ?_⟩
  try dsimp only [cxOf]
  refine b_asgL (Ex.refl H) (l_lst (K := K) K27.ea_nil (by simp)) fun l xs0 H1 hl e1 hl1 r1 => ?_
  cases r1
  show tSeq _ _ _ [some v0, some (.int (n : Nat)), some v2, some (.int g), some (.ref l), none, none, none, none, none] H1
  refine q_forR1 (n := (n : Int)) (Evl.ea_cons (ev_var rfl) Evl.ea_nil) (by omega) (fun k σ' H' => (∃ o5 o6 o7 o8 o9, σ' = [some v0, some (.int (n : Nat)), some v2, some (.int g), some (.ref l), o5, o6, o7, o8, o9]) ∧ Ex H H' ∧ ∃ vs, H' l = some (.lst vs) ∧ DaAll K H' vs ((statesF N g ys k).map stD)) (fun H5 e5 => ⟨⟨none, none, none, none, none, rfl⟩, e1.trans e5, [], e5 _ _ hl1, .nil⟩) ?_ ?_
  · rintro k σ' H2 hk ⟨⟨o5, o6, o7, o8, o9, rfl⟩, e2, vs, hvs, hvd⟩
    have hk' : k < n := by omega
    have hvl := hvd.length
    rw [List.length_map, statesF_len] at hvl
    show tSeq _ _ _ [some v0, some (.int (n : Nat)), some v2, some (.int g), some (.ref l), some (.int (k : Int)), o6, o7, o8, o9] H2
    refine b_asgD (d := .tuple []) (K := K) (Ex.refl H2) (e_tup K27.ea_nil (by simp)) fun v6 H3 e3 r6 => ?_
    show tSeq _ _ _ [some v0, some (.int (n : Nat)), some v2, some (.int g), some (.ref l), some (.int (k : Int)), some v6, o7, o8, o9] H3
    have e03 := e2.trans e3
    refine q_forR1 (n := (N.length : Int)) (Evl.ea_cons (ev_is (ev_lenD (.inl (e_var rfl (h2.mono e03)))) (by rw [List.length_map])) Evl.ea_nil) (by omega) (fun j σ' H' => (∃ v6 o7 o8 o9, σ' = [some v0, some (.int (n : Nat)), some v2, some (.int g), some (.ref l), some (.int (k : Int)), some v6, o7, o8, o9] ∧ Da K H' v6 (.tuple (((List.range j).map fun j => worthF g (ys.getD (k * N.length + j) 0)).map PyData.int))) ∧ Ex H2 H') (fun H4 e4 => ⟨⟨v6, o7, o8, o9, rfl, r6.mono e4⟩, e3.trans e4⟩) ?_ ?_
    · rintro j σ' H4 hj ⟨⟨v6, o7, o8, o9, rfl, r6⟩, e4⟩
      have hj' : j < N.length := by omega
      have e04 := e2.trans e4
      have hix : k * N.length + j < ys.length := by
        rw [hys]
        have h1 : k * N.length + N.length ≤ n * N.length := by
          rw [← Nat.succ_mul]
          exact Nat.mul_le_mul_right _ hk'
        omega
      show tSeq _ _ _ [some v0, some (.int (n : Nat)), some v2, some (.int g), some (.ref l), some (.int (k : Int)), some v6, some (.int (j : Int)), o8, o9] H4
      refine b_asg (v := .int ((ys.getD (k * N.length + j) 0 : Nat) : Int)) (Ex.refl H4) (ev_int1 (ev_int (e_ixL (e_var rfl (h0.mono e04)) (ev_is (ev_op (ev_op (ev_var rfl) (ev_lenD (.inl (e_var rfl (h2.mono e04)))) (rv_I (.inl ⟨by omega, by omega⟩))) (ev_var rfl) rv_I0) (congrArg V.int ?_)) (atI_nat (nt_at hix))))) fun H5 e5 => ?_
      · rw [List.length_map]
        show (k : Int) * ((N.length : Nat) : Int) + (j : Int) = ((k * N.length + j : Nat) : Int)
        rw [Int.natCast_add, Int.natCast_mul]
      generalize hdr : ys.getD (k * N.length + j) 0 = dr at *
      refine b_asg (v := .int (((dr % 5 : Nat) : Int) - 1)) (Ex.refl H5) (ev_op (ev_op (ev_var rfl) ev_c (rv_I (by decide))) ev_c rv_I0) fun H6 e6 => ?_
      show tSeq _ _ _ [some v0, some (.int (n : Nat)), some v2, some (.int g), some (.ref l), some (.int (k : Int)), some v6, some (.int (j : Int)), some (.int (dr : Int)), some (.int (((dr % 5 : Nat) : Int) - 1))] H6
      refine q_ifAsg (v := .int (worthF g dr)) (et_test (ev_op (ev_op (ev_op (ev_var rfl) ev_c (rv_I (by unfold CDiv; decide))) ev_c (rv_I (by decide))) ev_c (rv_eq rfl))) (fun hb => ?_) (fun hb => ?_) fun H7 e7 => ?_
      · have hb' : dr / 5 % 16 = 1 := by
          have z := V.int.inj (of_decide_eq_true hb)
          omega
        refine ev_int (e_ixL (ds := [.int g, .int (0 - g)]) (e_lst (K27.ea_cons (e_int (ev_var rfl)) (K27.ea_cons (e_int (ev_op ev_c (ev_var rfl) rv_I0)) K27.ea_nil)) (by simp)) (ev_is (ev_op (ev_op (ev_var rfl) ev_c (rv_I (by unfold CDiv; decide))) ev_c (rv_I (by decide))) (congrArg V.int (show (dr : Int) / 80 % 2 = ((dr / 80 % 2 : Nat) : Int) by omega))) (atI_nat ?_))
        unfold worthF
        rw [if_pos hb']
        rcases (by omega : dr / 80 % 2 = 0 ∨ dr / 80 % 2 = 1) with z | z
        · rw [z] <;> rfl
        · rw [z] <;> rfl
      · have hb' : ¬ dr / 5 % 16 = 1 := fun z => of_decide_eq_false hb (congrArg V.int (by omega))
        have e : worthF g dr = ((dr % 5 : Nat) : Int) - 1 := if_neg hb'
        rw [e] <;> rfl
      show tAsg _ _ _ [some v0, some (.int (n : Nat)), some v2, some (.int g), some (.ref l), some (.int (k : Int)), some v6, some (.int (j : Int)), some (.int (dr : Int)), some (.int (worthF g dr))] H7
      have r67 := r6.mono (e5.trans (e6.trans e7))
      refine b_asgD1 (Ex.refl H7) (e_catA (e_var rfl r67) (e_tup (K27.ea_cons (e_int (ev_var rfl)) K27.ea_nil) (by simp)) (by simp; omega)) fun v8 H8 e8 r8 => ?_
      refine ⟨⟨v8, _, _, _, rfl, ?_⟩, (e4.trans e5).trans ((e6.trans e7).trans e8)⟩
      rw [List.range_succ, List.map_append, List.map_append]
      show Da K H8 v8 (.tuple (_ ++ [.int (worthF g (ys.getD (k * N.length + j) 0))]))
      rw [hdr]
      exact r8
    · rintro σ' H4 ⟨⟨v6, o7, o8, o9, rfl, r6⟩, e4⟩
      rw [Int.toNat_natCast] at r6
      refine b_app1 (d := stD (stF N g ys k)) (e4 _ _ hvs) (ev_var rfl) (e_var rfl r6) (by omega) fun v H5 e5 r5 => ?_
      have m : NEx H5 (upd H5 l (.lst (vs ++ [v]))) := NEx.upd (e5 _ _ (e4 _ _ hvs))
      refine ⟨⟨_, _, _, _, _, rfl⟩, Ex.mut ((e2.trans e4).trans e5) hl, vs ++ [v], upd_same, ?_⟩
      rw [stF_snoc, List.map_append]
      exact ((hvd.mono (e4.trans e5)).tmono m (noLs_map stD_noL _)).append (.cons (r5.tmono m (stD_noL _)) .nil)
  · rintro σ' H2 ⟨⟨o5, o6, o7, o8, o9, rfl⟩, e2, vs, hvs, hvd⟩
    exact ⟨_, rfl, q l _ H2 hl e2 hvs hvd⟩
end
end K27

/-! K27: the law's sameness, comparisons found, shape of an answer. -/
namespace K27
open PySem PySem.Spec PyProof.Rows L2 Evl
local macro_rules | `(tactic| walk_at "ev") => `(tactic| first
  | exact ev_c
  | exact ev_var rfl
  | (refine' et_test ?h; (case h => walk_at "ev"))
  | (refine' et_B ?h; (case h => walk_at "ev"))
  | (refine' et_not ?h; (case h => walk_at "ev"))
  | (refine' et_and ?a (fun _ => ?b); (case a => walk_at "ev"); (case b => walk_at "ev"))
  | (refine' et_or ?a (fun _ => ?b); (case a => walk_at "ev"); (case b => walk_at "ev"))
  | (refine' ev_op ?a ?b (rv_eq ?c); (case a => walk_at "ev"); (case b => walk_at "ev"); (case c => rfl))
  | (refine' ev_op ?a ?b rv_I0; (case a => walk_at "ev"); (case b => walk_at "ev"))
  | (refine' ev_inU ?a ?b ?c ?d; (case a => walk_at "ev"); (case b => (refine' eu_tup ?x ?y; (case x => walk_at "ev"); (case y => decide))); (case c => rfl); (case d => rfl))
  | (refine' ev_str (e_ixT ?a ?b ?c); (case a => walk_at "ed"); (case b => walk_at "ev"); (case c => first | exact at0 | exact at1 | exact at2))
  | (refine' ev_int (e_ixT ?a ?b ?c); (case a => walk_at "ed"); (case b => walk_at "ev"); (case c => first | exact at0 | exact at1 | exact at2))
  | exact Evl.ea_nil
  | (refine' Evl.ea_cons ?a ?b; (case a => walk_at "ev"); (case b => walk_at "ev")))
local macro_rules | `(tactic| walk_at "ed") => `(tactic| first
  | exact e_var rfl (by assumption)
  | exact e_var rfl (by constructor)
  | exact K27.ea_nil
  | (refine' K27.ea_cons ?a ?b; (case a => walk_at "ed"); (case b => walk_at "ed"))
  | (refine' e_tup ?a ?b; (case a => walk_at "ed"); (case b => (simp only [List.length_cons, List.length_nil, List.length_append]; omega)))
  | (refine' e_ixT ?a ?b ?c; (case a => walk_at "ed"); (case b => walk_at "ev"); (case c => first | exact at0 | exact at1 | exact at2))
  | (refine' e_ev ?a ?b; (case a => walk_at "ev"); (case b => first | exact .str _ | exact .int _ | exact .bl _ | assumption)))
mutual
def smF : PyData → PyData → Bool
  | .str x, .str y => decide (x = y)
  | .int i, .int j => decide (i = j)
  | .tuple ds, .tuple es => smFs ds es
  | .list ds, .list es => smFs ds es
  | _, _ => false
def smFs : List PyData → List PyData → Bool
  | [], [] => true
  | d :: ds, e :: es => smF d e && smFs ds es
  | _, _ => false
end
mutual
def plq : PyData → Bool
  | .str _ => true
  | .int _ => true
  | .tuple ds => decide (ds.length ≤ 10000) && plqs ds
  | .list ds => decide (ds.length ≤ 10000) && plqs ds
  | _ => false
def plqs : List PyData → Bool
  | [] => true
  | d :: ds => plq d && plqs ds
end
mutual
def dq : PyData → Nat
  | .tuple ds => dqs ds + 1
  | .list ds => dqs ds + 1
  | _ => 1
def dqs : List PyData → Nat
  | [] => 0
  | d :: ds => max (dq d) (dqs ds)
end
mutual
theorem smF_refl : ∀ d : PyData, plq d = true → smF d d = true
  | .none, h => nomatch h
  | .bool _, h => nomatch h
  | .int i, _ => by simp [smF]
  | .str x, _ => by simp [smF]
  | .tuple ds, h => smFs_refl ds (Bool.and_eq_true_iff.mp h).2
  | .list ds, h => smFs_refl ds (Bool.and_eq_true_iff.mp h).2
  | .dict _, h => nomatch h
theorem smFs_refl : ∀ ds : List PyData, plqs ds = true → smFs ds ds = true
  | [], _ => rfl
  | d :: ds, h => by
    have h' : (plq d && plqs ds) = true := h
    rw [Bool.and_eq_true] at h'
    show (smF d d && smFs ds ds) = true
    rw [smF_refl d h'.1, smFs_refl ds h'.2] <;> rfl
end
theorem plqs_at : ∀ {ds : List PyData} {i : Nat} {d : PyData}, plqs ds = true → ds[i]? = some d → plq d = true ∧ dq d ≤ dqs ds
  | [], _, _, _, e => by simp at e
  | a :: r, 0, d, h, e => by
    have h' : (plq a && plqs r) = true := h
    rw [Bool.and_eq_true] at h'
    simp at e
    subst e
    exact ⟨h'.1, Nat.le_max_left _ _⟩
  | a :: r, i + 1, d, h, e => by
    have h' : (plq a && plqs r) = true := h
    rw [Bool.and_eq_true] at h'
    obtain ⟨h1, h2⟩ := plqs_at (i := i) h'.2 (by simpa using e)
    exact ⟨h1, Nat.le_trans h2 (Nat.le_max_right _ _)⟩
theorem smFs_len : ∀ {ds es : List PyData}, ds.length ≠ es.length → smFs ds es = false
  | [], [], h => absurd rfl h
  | [], _ :: _, _ => rfl
  | _ :: _, [], _ => rfl
  | d :: ds, e :: es, h => by
    show (smF d e && smFs ds es) = false
    rw [smFs_len (fun z => h (by simp [z])), Bool.and_false]
theorem smFs_false : ∀ {ds es : List PyData} {i : Nat} {d e : PyData}, ds[i]? = some d → es[i]? = some e → smF d e = false → smFs ds es = false
  | [], _, _, _, _, h, _, _ => by simp at h
  | _ :: _, [], _, _, _, _, h, _ => by simp at h
  | a :: ds, b :: es, 0, d, e, h1, h2, h3 => by
    simp at h1 h2
    subst h1 h2
    show (smF a b && smFs ds es) = false
    rw [h3] <;> rfl
  | a :: ds, b :: es, i + 1, d, e, h1, h2, h3 => by
    show (smF a b && smFs ds es) = false
    rw [smFs_false (i := i) (by simpa using h1) (by simpa using h2) h3, Bool.and_false]
theorem smFs_true : ∀ {ds es : List PyData}, ds.length = es.length → (∀ (i : Nat) (d e : PyData), ds[i]? = some d → es[i]? = some e → smF d e = true) → smFs ds es = true
  | [], [], _, _ => rfl
  | [], _ :: _, h, _ => by simp at h
  | _ :: _, [], h, _ => by simp at h
  | a :: ds, b :: es, h, k => by
    show (smF a b && smFs ds es) = true
    rw [k 0 a b rfl rfl, smFs_true (by simpa using h) fun i d e h1 h2 => k (i + 1) d e (by simpa using h1) (by simpa using h2)] <;> rfl
def rIxU (K : PySem.W.Frag) : R2 := fun o i H Q => rIxL K o i H Q ∨ rIxT K o i H Q
theorem ix_any {X : Cx} : IxR X (rIxU X.K) := ix_list.or ix_tup
section
variable {P : Program} {w : World} {K : PySem.W.Frag} {mg : Str → Option Value} {base : Heap}
theorem e_ixU {σ : L2.St} {H : Hp} {ta tb : TE} {i : Int} {ds : List PyData} {d : PyData} (h : E K ta σ H (.list ds) ∨ E K ta σ H (.tuple ds)) (hi : Ev tb σ H (.int i)) (ha : atI ds i = some d) : E K (tOp (rIxU K) ta tb) σ H d := fun H1 e Q q => by
  rcases h with h | h
  · refine h H1 e _ fun v H2 e2 r => hi H2 (e.trans e2) _ fun H3 e3 => ?_
    obtain ⟨a, xs, rfl, hs, hx⟩ := r.lst_inv
    obtain ⟨w, hw, hd⟩ := atI_da hx ha
    exact .inl ⟨a, xs, i, w, rfl, rfl, sq_of (e3 _ _ hs), hw, q w H3 (e2.trans e3) (hd.mono e3)⟩
  · refine h H1 e _ fun v H2 e2 r => hi H2 (e.trans e2) _ fun H3 e3 => ?_
    obtain ⟨a, xs, rfl, hs, hx⟩ := r.tup_inv
    obtain ⟨w, hw, hd⟩ := atI_da hx ha
    exact .inr ⟨a, xs, i, w, rfl, rfl, ex_t e3 hs, hw, q w H3 (e2.trans e3) (hd.mono e3)⟩
abbrev s__law_same : Stmt := topS 53
abbrev N__law_same : List Str := ["_law_actual", "_law_expected", "_law_k"]
theorem sc__law_same : FnScope N__law_same ["_law_actual", "_law_expected"] (defScope s__law_same) := ⟨rfl, rfl, rfl, by decide +kernel, rfl, by decide +kernel, by decide +kernel⟩
def R_same (n : Nat) : Rl := fun ds r => ∃ (d e : PyData), ds = [d, e] ∧ plq d = true ∧ plq e = true ∧ dq e ≤ n ∧ r = .bool (smF d e)
section
variable {σ : L2.St} {H : Hp} {te : TE} {T : String} {b : Bool}
theorem ev_isiS {x : Str} (h : E K te σ H (.str x)) (hk : kitB "str" T = some b) : Ev (tCB (rIsi K) (tCons te (tCons (tC (.ty T)) tNil))) σ H (.bl b) := ev_isi h (fun _ z => by cases z) hk
theorem ev_isiI {x : Int} (h : E K te σ H (.int x)) (hk : kitB "int" T = some b) : Ev (tCB (rIsi K) (tCons te (tCons (tC (.ty T)) tNil))) σ H (.bl b) := ev_isi h (fun _ z => by cases z) hk
theorem ev_isiB {x : Bool} (h : E K te σ H (.bool x)) (hk : kitB "bool" T = some b) : Ev (tCB (rIsi K) (tCons te (tCons (tC (.ty T)) tNil))) σ H (.bl b) := ev_isi h (fun _ z => by cases z) hk
theorem ev_isiT {x : List PyData} (h : E K te σ H (.tuple x)) (hk : kitB "tuple" T = some b) : Ev (tCB (rIsi K) (tCons te (tCons (tC (.ty T)) tNil))) σ H (.bl b) := ev_isi h (fun _ z => by cases z) hk
theorem ev_isiL {x : List PyData} (h : E K te σ H (.list x)) (hk : kitB "list" T = some b) : Ev (tCB (rIsi K) (tCons te (tCons (tC (.ty T)) tNil))) σ H (.bl b) := ev_isi h (fun _ z => by cases z) hk
end
theorem ok_same (Z_isinstance : mg "isinstance" = none) (Z_str : mg "str" = none) (Z_int : mg "int" = none) (Z_bool : mg "bool" = none) (Z_tuple : mg "tuple" = none) (Z_list : mg "list" = none) (Z_len : mg "len" = none) (Z_range : mg "range" = none) (D : Def K mg "_law_same" s__law_same ["_law_actual", "_law_expected"]) :
    ∀ n : Nat, FnAt P w K mg base (n + 1) "_law_same" ["_law_actual", "_law_expected"] (spR K (R_same n))
  | 0 => FnAt.none D fun vs H Q E h => by
    obtain ⟨ds, r, _, ⟨d, e, _, _, _, h, _⟩, _⟩ := h
    cases e <;> simp [dq] at h
  | n + 1 => by
    have G__law_same := ok_same Z_isinstance Z_str Z_int Z_bool Z_tuple Z_list Z_len Z_range D n
    refine D.ok sc__law_same (fun ds d ⟨d, e, h, _⟩ => by rw [h] <;> rfl) fun f0 cdv A0 outer s H vs Q E ds d hr hv hR q => ?_
    obtain ⟨d, e, rfl, hd, he, hn, rfl⟩ := hR
    obtain ⟨v0, v1, rfl, h0, h1⟩ := hv.i2
    refine ⟨_, (pss_cons (ps_if (pt_val (pe_callB call_isi (by rfl) Z_isinstance bt_isinstance (pa_cons (pv 1) (pa_cons (pe_bltn (v := .ty "str") (by rfl) Z_str bt_str rfl) pa_nil)))) (pss_one (ps_ret (pe_and (pe_callB call_isi (by rfl) Z_isinstance bt_isinstance (pa_cons (pv 0) (pa_cons (pe_bltn (v := .ty "str") (by rfl) Z_str bt_str rfl) pa_nil))) (pe_one (pe_cmpR op_eq (pv 0) (pv 1) (nomark _)))))) pss_nil)
      (pss_cons (ps_if (pt_val (pe_callB call_isi (by rfl) Z_isinstance bt_isinstance (pa_cons (pv 1) (pa_cons (pe_bltn (v := .ty "int") (by rfl) Z_int bt_int rfl) pa_nil)))) (pss_one (ps_ret (pe_and (pe_callB call_isi (by rfl) Z_isinstance bt_isinstance (pa_cons (pv 0) (pa_cons (pe_bltn (v := .ty "int") (by rfl) Z_int bt_int rfl) pa_nil))) (pe_and (pe_not (pe_callB call_isi (by rfl) Z_isinstance bt_isinstance (pa_cons (pv 0) (pa_cons (pe_bltn (v := .ty "bool") (by rfl) Z_bool bt_bool rfl) pa_nil)))) (pe_one (pe_cmpR op_eq (pv 0) (pv 1) (nomark _))))))) pss_nil)
      (pss_cons (ps_if (PW.pt (pw_and (pt_val (pe_callB call_isi (by rfl) Z_isinstance bt_isinstance (pa_cons (pv 1) (pa_cons (pe_bltn (v := .ty "tuple") (by rfl) Z_tuple bt_tuple rfl) pa_nil)))) (pw_and1 (pt_not (pt_val (pe_callB call_isi (by rfl) Z_isinstance bt_isinstance (pa_cons (pv 0) (pa_cons (pe_bltn (v := .ty "tuple") (by rfl) Z_tuple bt_tuple rfl) pa_nil)))))))) (pss_one (ps_ret pe_bl)) pss_nil)
      (pss_cons (ps_if (PW.pt (pw_and (pt_val (pe_callB call_isi (by rfl) Z_isinstance bt_isinstance (pa_cons (pv 1) (pa_cons (pe_bltn (v := .ty "list") (by rfl) Z_list bt_list rfl) pa_nil)))) (pw_and1 (pt_not (pt_val (pe_callB call_isi (by rfl) Z_isinstance bt_isinstance (pa_cons (pv 0) (pa_cons (pe_bltn (v := .ty "list") (by rfl) Z_list bt_list rfl) pa_nil)))))))) (pss_one (ps_ret pe_bl)) pss_nil)
      (pss_cons (ps_if (pt_cmpR op_ne (pe_callB call_lenS (by rfl) Z_len PySem.boot_len (pa_cons (pv 0) pa_nil)) (pe_callB call_lenS (by rfl) Z_len PySem.boot_len (pa_cons (pv 1) pa_nil)) (nomark _)) (pss_one (ps_ret pe_bl)) pss_nil)
      (pss_cons (ps_for PassesOwn.never rfl (pi_range1 (by rfl) Z_range (pa_cons (pe_callB call_lenS (by rfl) Z_len PySem.boot_len (pa_cons (pv 1) pa_nil)) pa_nil)) (pg_name (i := 2) sc__law_same.nd rfl (by first | exact Or.inl rfl | exact Or.inr rfl)) (pss_one (ps_if (pt_not (pt_val (pe_callX G__law_same hr (pa_cons (pe_ix ix_any (pv 0) (pv 2) (fun _ _ => rfl)) (pa_cons (pe_ix ix_any (pv 1) (pv 2) (fun _ _ => rfl)) pa_nil))))) (pss_one (ps_ret pe_bl)) pss_nil)))
      (pss_one (ps_ret pe_bl)))))))), ?_⟩
    try dsimp only [cxOf]
    -- the two of one kind, made of parts
    by_cases hk : ∃ ds es, (d = .tuple ds ∧ e = .tuple es) ∨ (d = .list ds ∧ e = .list es)
    · obtain ⟨ds, es, hk⟩ := hk
      have hl0 : ∀ H', Ex H H' → (K27.E K (tVar 0) (L2.start N__law_same [v0, v1]) H' (.list ds) ∨ K27.E K (tVar 0) (L2.start N__law_same [v0, v1]) H' (.tuple ds)) := fun H' e => by
        rcases hk with ⟨rfl, rfl⟩ | ⟨rfl, rfl⟩
        · exact .inr (e_var rfl (h0.mono e))
        · exact .inl (e_var rfl (h0.mono e))
      have hl1 : ∀ H', Ex H H' → (K27.E K (tVar 1) (L2.start N__law_same [v0, v1]) H' (.list es) ∨ K27.E K (tVar 1) (L2.start N__law_same [v0, v1]) H' (.tuple es)) := fun H' e => by
        rcases hk with ⟨rfl, rfl⟩ | ⟨rfl, rfl⟩
        · exact .inr (e_var rfl (h1.mono e))
        · exact .inl (e_var rfl (h1.mono e))
      have hpq : plqs ds = true ∧ plqs es = true ∧ es.length ≤ 10000 ∧ dqs es ≤ n ∧ smF d e = smFs ds es := by
        rcases hk with ⟨rfl, rfl⟩ | ⟨rfl, rfl⟩
        · have h3 := Bool.and_eq_true_iff.mp hd
          have h4 := Bool.and_eq_true_iff.mp he
          exact ⟨h3.2, h4.2, of_decide_eq_true h4.1, Nat.le_of_succ_le_succ hn, rfl⟩
        · have h3 := Bool.and_eq_true_iff.mp hd
          have h4 := Bool.and_eq_true_iff.mp he
          exact ⟨h3.2, h4.2, of_decide_eq_true h4.1, Nat.le_of_succ_le_succ hn, rfl⟩
      obtain ⟨p1, p2, p3, p4, p5⟩ := hpq
      rw [p5] at q
      refine b_skip (b := false) (Ex.refl H) ?_ rfl fun H1 e1 => ?_
      · rcases hk with ⟨rfl, rfl⟩ | ⟨rfl, rfl⟩
        · exact et_B (ev_isiT (e_var rfl h1) (by decide +kernel))
        · exact et_B (ev_isiL (e_var rfl h1) (by decide +kernel))
      refine b_skip (b := false) e1 ?_ rfl fun H2 e2 => ?_
      · rcases hk with ⟨rfl, rfl⟩ | ⟨rfl, rfl⟩
        · exact et_B (ev_isiT (e_var rfl h1) (by decide +kernel))
        · exact et_B (ev_isiL (e_var rfl h1) (by decide +kernel))
      refine b_skip (b := false) e2 ?_ rfl fun H3 e3 => ?_
      · rcases hk with ⟨rfl, rfl⟩ | ⟨rfl, rfl⟩
        · exact et_and (a := true) (b := false) (et_B (ev_isiT (e_var rfl h1) (by decide +kernel))) fun _ => et_not (a := true) (et_B (ev_isiT (e_var rfl h0) (by decide +kernel)))
        · exact et_and (a := false) (b := false) (et_B (ev_isiL (e_var rfl h1) (by decide +kernel))) fun z => by cases z
      refine b_skip (b := false) e3 ?_ rfl fun H4 e4 => ?_
      · rcases hk with ⟨rfl, rfl⟩ | ⟨rfl, rfl⟩
        · exact et_and (a := false) (b := false) (et_B (ev_isiT (e_var rfl h1) (by decide +kernel))) fun z => by cases z
        · exact et_and (a := true) (b := false) (et_B (ev_isiL (e_var rfl h1) (by decide +kernel))) fun _ => et_not (a := true) (et_B (ev_isiL (e_var rfl h0) (by decide +kernel)))
      refine b_when e4 (et_test (ev_op (ev_lenD (hl0 H (Ex.refl H))) (ev_lenD (hl1 H (Ex.refl H))) (rv_ne rfl))) (fun hb H5 e5 => ?_) fun hb H5 e5 => ?_
      · rw [dec_int2] at hb
        have hne : ds.length ≠ es.length := fun z => by
          rw [z] at hb
          simp at hb
        rw [smFs_len hne] at q
        exact b_ret e5 (e_bl ev_c) q
      rw [dec_int2] at hb
      have hlen : ds.length = es.length := by
        by_cases z : (ds.length : Int) = es.length
        · omega
        · rw [decide_eq_false z] at hb
          cases hb
      refine q_forR1 (n := (es.length : Int)) (Evl.ea_cons (ev_lenD (hl1 H5 e5)) Evl.ea_nil) (by omega) (fun k σ' H' => (∃ o2, σ' = [some v0, some v1, o2]) ∧ Ex H H' ∧ ∀ (i : Nat) (a b : PyData), i < k → ds[i]? = some a → es[i]? = some b → smF a b = true) (fun H6 e6 => ⟨⟨none, rfl⟩, e5.trans e6, fun i a b hi => by omega⟩) ?_ ?_
      · rintro k σ' H6 hk' ⟨⟨o2, rfl⟩, e6, hall⟩
        have hke : k < es.length := by omega
        have hkd : k < ds.length := by omega
        have ha := List.getElem?_eq_getElem hkd
        have hb2 := List.getElem?_eq_getElem hke
        generalize ds[k] = a at ha
        generalize es[k] = b at hb2
        obtain ⟨pa, _⟩ := plqs_at p1 ha
        obtain ⟨pb, pd⟩ := plqs_at p2 hb2
        show tIfS _ _ _ _ [some v0, some v1, some (.int (k : Int))] H6
        have hl0' : K27.E K (tVar 0) [some v0, some v1, some (.int (k : Int))] H6 (.list ds) ∨ K27.E K (tVar 0) [some v0, some v1, some (.int (k : Int))] H6 (.tuple ds) := by
          rcases hk with ⟨rfl, rfl⟩ | ⟨rfl, rfl⟩
          · exact .inr (e_var rfl (h0.mono e6))
          · exact .inl (e_var rfl (h0.mono e6))
        have hl1' : K27.E K (tVar 1) [some v0, some v1, some (.int (k : Int))] H6 (.list es) ∨ K27.E K (tVar 1) [some v0, some v1, some (.int (k : Int))] H6 (.tuple es) := by
          rcases hk with ⟨rfl, rfl⟩ | ⟨rfl, rfl⟩
          · exact .inr (e_var rfl (h1.mono e6))
          · exact .inl (e_var rfl (h1.mono e6))
        have hcall := ev_bl (e_call (E' := E0) (R := R_same n) (ds := [a, b]) (d := .bool (smF a b)) (K27.ea_cons (e_ixU hl0' (ev_var (i := 2) rfl) (atI_nat ha)) (K27.ea_cons (e_ixU hl1' (ev_var (i := 2) rfl) (atI_nat hb2)) K27.ea_nil)) ⟨a, b, rfl, pa, pb, by omega, rfl⟩)
        refine b_when1 (Ex.refl H6) (et_not (et_B hcall)) (fun hb H7 e7 => ?_) fun hb H7 e7 => ?_
        · have hs : smF a b = false := by cases h : smF a b <;> rw [h] at hb <;> first | rfl | cases hb
          rw [smFs_false ha hb2 hs] at q
          exact b_ret e7 (e_bl ev_c) fun v H8 e8 => q v H8 (e6.trans e8)
        · refine ⟨⟨_, rfl⟩, e6.trans e7, fun i a' b' hi h1 h2 => ?_⟩
          by_cases hik : i < k
          · exact hall i a' b' hik h1 h2
          · have ei : i = k := by omega
            subst ei
            rw [ha] at h1
            rw [hb2] at h2
            cases h1
            cases h2
            cases h : smF a b <;> rw [h] at hb <;> first | rfl | cases hb
      · rintro σ' H6 ⟨⟨o2, rfl⟩, e6, hall⟩
        have hs : smFs ds es = true := smFs_true hlen fun i a b h1 h2 => hall i a b (by have := (List.getElem?_eq_some_iff.mp h2).1; omega) h1 h2
        rw [hs] at q
        exact b_ret (Ex.refl H6) (e_bl ev_c) fun v H8 e8 => q v H8 (e6.trans e8)
    cases e with
    | none => cases he
    | bool _ => cases he
    | dict _ => cases he
    | str y =>
      refine b_yes (b := true) (Ex.refl H) (et_B (ev_isiS (e_var rfl h1) (by decide +kernel))) rfl fun H1 e1 => ?_
      cases d with
      | none => cases hd
      | bool _ => cases hd
      | dict _ => cases hd
      | str x =>
        obtain rfl := h0.str_inv
        obtain rfl := h1.str_inv
        exact b_ret e1 (e_bl (ev_is (ev_andV (a := true) (ev_isiS (e_var rfl h0) (by decide +kernel)) fun _ => ev_op (ev_var rfl) (ev_var rfl) (rv_eq rfl)) (congrArg V.bl dec_str2))) q
      | int x => exact b_ret e1 (e_bl (ev_andV (a := false) (b := false) (ev_isiI (e_var rfl h0) (by decide +kernel)) fun z => by cases z)) q
      | tuple x => exact b_ret e1 (e_bl (ev_andV (a := false) (b := false) (ev_isiT (e_var rfl h0) (by decide +kernel)) fun z => by cases z)) q
      | list x => exact b_ret e1 (e_bl (ev_andV (a := false) (b := false) (ev_isiL (e_var rfl h0) (by decide +kernel)) fun z => by cases z)) q
    | int y =>
      refine b_skip (b := false) (Ex.refl H) (et_B (ev_isiI (e_var rfl h1) (by decide +kernel))) rfl fun H1 e1 => ?_
      refine b_yes (b := true) e1 (et_B (ev_isiI (e_var rfl h1) (by decide +kernel))) rfl fun H2 e2 => ?_
      cases d with
      | none => cases hd
      | bool _ => cases hd
      | dict _ => cases hd
      | int x =>
        obtain rfl := h0.int_inv
        obtain rfl := h1.int_inv
        exact b_ret e2 (e_bl (ev_is (ev_andV (a := true) (ev_isiI (e_var rfl h0) (by decide +kernel)) fun _ => ev_andV (a := true) (ev_notV (a := false) (ev_isiI (e_var rfl h0) (by decide +kernel))) fun _ => ev_op (ev_var rfl) (ev_var rfl) (rv_eq rfl)) (congrArg V.bl dec_int2))) q
      | str x => exact b_ret e2 (e_bl (ev_andV (a := false) (b := false) (ev_isiS (e_var rfl h0) (by decide +kernel)) fun z => by cases z)) q
      | tuple x => exact b_ret e2 (e_bl (ev_andV (a := false) (b := false) (ev_isiT (e_var rfl h0) (by decide +kernel)) fun z => by cases z)) q
      | list x => exact b_ret e2 (e_bl (ev_andV (a := false) (b := false) (ev_isiL (e_var rfl h0) (by decide +kernel)) fun z => by cases z)) q
    | tuple es =>
      refine b_skip (b := false) (Ex.refl H) (et_B (ev_isiT (e_var rfl h1) (by decide +kernel))) rfl fun H1 e1 => ?_
      refine b_skip (b := false) e1 (et_B (ev_isiT (e_var rfl h1) (by decide +kernel))) rfl fun H2 e2 => ?_
      have q' : smF d (.tuple es) = false := by
        cases d with
        | tuple ds => exact absurd ⟨ds, es, .inl ⟨rfl, rfl⟩⟩ hk
        | _ => rfl
      rw [q'] at q
      refine b_yes (b := true) e2 (et_and (a := true) (b := true) (et_B (ev_isiT (e_var rfl h1) (by decide +kernel))) fun _ => et_not (a := false) ?_) rfl fun H3 e3 => b_ret e3 (e_bl ev_c) q
      cases d with
      | none => cases hd
      | bool _ => cases hd
      | dict _ => cases hd
      | int x => exact et_B (ev_isiI (e_var rfl h0) (by decide +kernel))
      | str x => exact et_B (ev_isiS (e_var rfl h0) (by decide +kernel))
      | list x => exact et_B (ev_isiL (e_var rfl h0) (by decide +kernel))
      | tuple ds => exact absurd ⟨ds, es, .inl ⟨rfl, rfl⟩⟩ hk
    | list es =>
      refine b_skip (b := false) (Ex.refl H) (et_B (ev_isiL (e_var rfl h1) (by decide +kernel))) rfl fun H1 e1 => ?_
      refine b_skip (b := false) e1 (et_B (ev_isiL (e_var rfl h1) (by decide +kernel))) rfl fun H2 e2 => ?_
      have q' : smF d (.list es) = false := by
        cases d with
        | list ds => exact absurd ⟨ds, es, .inr ⟨rfl, rfl⟩⟩ hk
        | _ => rfl
      rw [q'] at q
      refine b_skip (b := false) e2 (et_and (a := false) (b := false) (et_B (ev_isiL (e_var rfl h1) (by decide +kernel))) fun z => by cases z) rfl fun H3 e3 => ?_
      refine b_yes (b := true) e3 (et_and (a := true) (b := true) (et_B (ev_isiL (e_var rfl h1) (by decide +kernel))) fun _ => et_not (a := false) ?_) rfl fun H4 e4 => b_ret e4 (e_bl ev_c) q
      cases d with
      | none => cases hd
      | bool _ => cases hd
      | dict _ => cases hd
      | int x => exact et_B (ev_isiI (e_var rfl h0) (by decide +kernel))
      | str x => exact et_B (ev_isiS (e_var rfl h0) (by decide +kernel))
      | tuple x => exact et_B (ev_isiT (e_var rfl h0) (by decide +kernel))
      | list ds => exact absurd ⟨ds, es, .inr ⟨rfl, rfl⟩⟩ hk
end
end K27

/-! K27: the law's comparisons found, the answer's shape, values, the walk. -/
namespace K27
open PySem PySem.Spec PyProof.Rows L2 Evl
local macro_rules | `(tactic| walk_at "ev") => `(tactic| first
  | exact ev_c
  | exact ev_var rfl
  | (refine' et_test ?h; (case h => walk_at "ev"))
  | (refine' et_B ?h; (case h => walk_at "ev"))
  | (refine' et_not ?h; (case h => walk_at "ev"))
  | (refine' et_and ?a (fun _ => ?b); (case a => walk_at "ev"); (case b => walk_at "ev"))
  | (refine' et_or ?a (fun _ => ?b); (case a => walk_at "ev"); (case b => walk_at "ev"))
  | (refine' ev_op ?a ?b (rv_eq ?c); (case a => walk_at "ev"); (case b => walk_at "ev"); (case c => rfl))
  | (refine' ev_op ?a ?b rv_I0; (case a => walk_at "ev"); (case b => walk_at "ev"))
  | (refine' ev_inU ?a ?b ?c ?d; (case a => walk_at "ev"); (case b => (refine' eu_tup ?x ?y; (case x => walk_at "ev"); (case y => decide))); (case c => rfl); (case d => rfl))
  | (refine' ev_str (e_ixT ?a ?b ?c); (case a => walk_at "ed"); (case b => walk_at "ev"); (case c => first | exact at0 | exact at1 | exact at2))
  | (refine' ev_int (e_ixT ?a ?b ?c); (case a => walk_at "ed"); (case b => walk_at "ev"); (case c => first | exact at0 | exact at1 | exact at2))
  | exact Evl.ea_nil
  | (refine' Evl.ea_cons ?a ?b; (case a => walk_at "ev"); (case b => walk_at "ev")))
local macro_rules | `(tactic| walk_at "ed") => `(tactic| first
  | exact e_var rfl (by assumption)
  | exact e_var rfl (by constructor)
  | exact K27.ea_nil
  | (refine' K27.ea_cons ?a ?b; (case a => walk_at "ed"); (case b => walk_at "ed"))
  | (refine' e_tup ?a ?b; (case a => walk_at "ed"); (case b => (simp only [List.length_cons, List.length_nil, List.length_append]; omega)))
  | (refine' e_ixT ?a ?b ?c; (case a => walk_at "ed"); (case b => walk_at "ev"); (case c => first | exact at0 | exact at1 | exact at2))
  | (refine' e_ev ?a ?b; (case a => walk_at "ev"); (case b => first | exact .str _ | exact .int _ | exact .bl _ | assumption)))
theorem Tm.plq : ∀ t : Tm, K27.plq t.d = true
  | .num n => rfl
  | .nm w => rfl
  | .neg t => by
    show (true && (true && (K27.plq t.d && true))) = true
    rw [Tm.plq t] <;> rfl
  | .opk o t k => by
    show (true && (true && (K27.plq t.d && (true && true)))) = true
    rw [Tm.plq t] <;> rfl
  | .op2 o t u => by
    show (true && (true && (K27.plq t.d && (K27.plq u.d && true)))) = true
    rw [Tm.plq t, Tm.plq u] <;> rfl
theorem Tm.dq : ∀ t : Tm, K27.dq t.d ≤ t.dp + 1
  | .num n => Nat.le_refl _
  | .nm w => Nat.le_refl _
  | .neg t => by
    have h := Tm.dq t
    have h1 := (show 1 ≤ t.dp by cases t <;> simp [Tm.dp])
    show max 1 (max (K27.dq t.d) 0) + 1 ≤ t.dp + 1 + 1
    omega
  | .opk o t k => by
    have h := Tm.dq t
    show max 1 (max (K27.dq t.d) (max 1 0)) + 1 ≤ t.dp + 1 + 1
    omega
  | .op2 o t u => by
    have h := Tm.dq t
    have h' := Tm.dq u
    show max 1 (max (K27.dq t.d) (max (K27.dq u.d) 0)) + 1 ≤ max t.dp u.dp + 1 + 1
    omega
theorem cmp_plq (c : Cm) (t u : Tm) : plq (Fm.cmp c t u).d = true := by
  show (true && (true && (plq t.d && (plq u.d && true)))) = true
  rw [t.plq, u.plq] <;> rfl
theorem cmp_dq {N : List Str} {c : Cm} {t u : Tm} (h : (Fm.cmp c t u).fine N) : dq (Fm.cmp c t u).d ≤ 5 := by
  have h1 := t.dq
  have h2 := u.dq
  have h3 := h.1.2
  have h4 := h.2.2
  show max 1 (max (dq t.d) (max (dq u.d) 0)) + 1 ≤ 5
  omega
theorem cmps_sz : ∀ f : Fm, f.cmps.length ≤ f.sz
  | .tt => by decide
  | .ff => by decide
  | .cmp _ _ _ => Nat.le_refl _
  | .un _ f => Nat.le_succ_of_le (cmps_sz f)
  | .bi _ f g => by
    have h1 := cmps_sz f
    have h2 := cmps_sz g
    show (f.cmps ++ g.cmps).length ≤ f.sz + g.sz + 1
    rw [List.length_append]
    omega
theorem cmps_dp (f : Fm) {n : Nat} (h : f.dp ≤ n) (hn : n ≤ 12) : f.cmps.length ≤ 4096 := by
  have h1 := cmps_sz f
  have h2 := sz_dp f
  have h3 : 2 ^ f.dp ≤ 2 ^ 12 := Nat.pow_le_pow_right (by decide) (by omega)
  have h4 : (2 : Nat) ^ 12 = 4096 := by decide
  omega
section
variable {P : Program} {w : World} {K : PySem.W.Frag} {mg : Str → Option Value} {base : Heap}
/-! ### found -/
abbrev s__law_found : Stmt := topS 54
abbrev N__law_found : List Str := ["_law_tree", "_law_found_here", "_law_part"]
theorem sc__law_found : FnScope N__law_found ["_law_tree"] (defScope s__law_found) := ⟨rfl, rfl, rfl, by decide +kernel, rfl, by decide +kernel, by decide +kernel⟩
def R_found (n : Nat) : Rl := fun ds d => ∃ f : Fm, ds = [f.d] ∧ f.dp ≤ n ∧ n ≤ 12 ∧ d = .list (f.cmps.map Fm.d)
theorem ok_found (D : Def K mg "_law_found" s__law_found ["_law_tree"]) : ∀ n : Nat, FnAt P w K mg base (n + 1) "_law_found" ["_law_tree"] (spR K (R_found n))
  | 0 => FnAt.none D fun vs H Q E h => by
    obtain ⟨ds, r, _, ⟨f, _, h, _⟩, _⟩ := h
    have := dp_pos f
    omega
  | n + 1 => by
    have G__law_found := ok_found D n
    refine D.ok sc__law_found (fun ds d ⟨f, h, _⟩ => by rw [h] <;> rfl) fun f0 cdv A0 outer s H vs Q E ds d hr hv hR q => ?_
    obtain ⟨f, rfl, hd, hn, rfl⟩ := hR
    obtain ⟨v0, rfl, h0⟩ := hv.i1
    refine ⟨_, (pss_cons (ps_if (pt_cmpR op_in_seq (pe_ix ix_tup (pv 0) pe_int (fun _ _ => rfl)) (pe_tup (pa_cons pe_str (pa_cons pe_str (pa_cons pe_str pa_nil)))) (by rfl)) (pss_one (ps_ret (pe_lst (pa_cons (pv 0) pa_nil)))) pss_nil)
      (pss_cons (ps_set (i := 1) sc__law_found.nd rfl (by first | exact Or.inl rfl | exact Or.inr rfl) (pe_lst pa_nil))
      (pss_cons (ps_for PassesOwn.never rfl (pi_tup (pe_slice sl_tupA (pv 0) (po_some pe_int) po_none)) (pg_name (i := 2) sc__law_found.nd rfl (by first | exact Or.inl rfl | exact Or.inr rfl)) (pss_one (ps_set (i := 1) sc__law_found.nd rfl (by first | exact Or.inl rfl | exact Or.inr rfl) (pe_op op_cat (pv 1) (pe_callX G__law_found hr (pa_cons (pv 2) pa_nil))))))
      (pss_one (ps_ret (pv 1)))))), ?_⟩
    try dsimp only [cxOf]
    have hall := cmps_dp f hd hn
    by_cases hc : isCmp f = true
    · obtain ⟨c, t, u, rfl⟩ : ∃ c t u, f = .cmp c t u := by cases f <;> first | exact ⟨_, _, _, rfl⟩ | cases hc
      refine b_yes (Ex.refl H) (by walk_at "ev") (by cases c <;> decide +kernel) fun H1 e1 => ?_
      exact b_ret e1 (e_lst (K27.ea_cons (e_var rfl h0) K27.ea_nil) (by simp)) q
    -- its word and parts
    obtain ⟨x, rest, fs, ed, ex, er, ec, el, ep⟩ : ∃ (x : Str) (rest : List PyData) (fs : List Fm), f.d = .tuple (.str x :: rest) ∧ inV (.str x) [.str "equal", .str "below", .str "upto"] = false ∧ rest = fs.map Fm.d ∧ f.cmps = fs.flatMap Fm.cmps ∧ fs.length ≤ 2 ∧ ∀ g ∈ fs, g.dp ≤ n := by
      cases f with
      | tt => exact ⟨_, _, [], rfl, by decide +kernel, rfl, rfl, by decide, fun _ h => by cases h⟩
      | ff => exact ⟨_, _, [], rfl, by decide +kernel, rfl, rfl, by decide, fun _ h => by cases h⟩
      | cmp c t u => exact absurd rfl hc
      | un o g => exact ⟨_, _, [g], rfl, by cases o <;> decide +kernel, rfl, by simp [Fm.cmps], by simp, fun z hz => by rw [List.mem_singleton.mp hz]; exact Nat.le_of_succ_le_succ hd⟩
      | bi o g h =>
        have hd' : max g.dp h.dp + 1 ≤ n + 1 := hd
        refine ⟨_, _, [g, h], rfl, by cases o <;> decide +kernel, rfl, by simp [Fm.cmps], by simp, fun z hz => ?_⟩
        rcases List.mem_cons.mp hz with rfl | hz
        · omega
        · rw [List.mem_singleton.mp hz]
          omega
    subst er
    rw [ed] at h0
    rw [ec] at q hall
    refine b_skip (Ex.refl H) (by walk_at "ev") ex fun H1 e1 => ?_
    refine b_asgD (d := .list []) (K := K) e1 (e_lst K27.ea_nil (by simp)) fun v1 H2 e2 r1 => ?_
    show tSeq _ _ _ [some v0, some v1, none] H2
    have t1 : K27.E K (tSl (rSlA K) (tVar 0) (tPart (tC (.int 1))) tNoPart) [some v0, some v1, none] H2 (.tuple (fs.map Fm.d)) := e_is (e_slT (e_var rfl (h0.mono e2)) (eo_some ev_c) eo_none (tl_whole _ _)) (by rw [tl_cut])
    refine b_forT (Ex.refl H2) t1 (fun p xs i σ' H' => ∃ v o, σ' = [some v0, some v, o] ∧ Ex H H' ∧ SqT K H' p xs ∧ DaAll K H' xs (fs.map Fm.d) ∧ Da K H' v (.list (((fs.take i).flatMap Fm.cmps).map Fm.d))) (fun p xs H3 e3 hs hx => ⟨v1, none, rfl, e2.trans e3, hs, hx, r1.mono e3⟩) (fun p xs i σ' H' ⟨v, o, _, _, h, _⟩ => h) ?_ ?_
    · rintro p xs i y d σ' H' hl hy hd' ⟨v, o, rfl, e3, hs, hx, rv⟩
      obtain ⟨d2, hd2, rd⟩ := hx.get hy
      rw [hd'] at hd2
      cases hd2
      rw [List.getElem?_map] at hd'
      cases hfi : fs[i]? with
      | none =>
        rw [hfi] at hd'
        cases hd'
      | some g =>
        rw [hfi] at hd'
        cases hd'
        have hgm := List.mem_of_getElem? hfi
        show tAsg _ _ _ [some v0, some v, some y] H'
        have et : fs.take (i + 1) = fs.take i ++ [g] := take_snoc hfi
        have hsz : (((fs.take i).flatMap Fm.cmps).map Fm.d).length + (g.cmps.map Fm.d).length ≤ 100000 := by
          have h2 : fs = (fs.take i ++ [g]) ++ fs.drop (i + 1) := by
            rw [← et]
            exact (List.take_append_drop _ _).symm
          have h1 := congrArg (fun l : List Fm => (l.flatMap Fm.cmps).length) h2
          have e5 : [g].flatMap Fm.cmps = g.cmps := by simp
          replace h1 : (fs.flatMap Fm.cmps).length = (((fs.take i ++ [g]) ++ fs.drop (i + 1)).flatMap Fm.cmps).length := h1
          rw [List.flatMap_append, List.flatMap_append, List.length_append, List.length_append, e5] at h1
          rw [List.length_map, List.length_map]
          omega
        refine b_asgD1 (Ex.refl H') (e_cat (e_var rfl rv) (e_call (ds := [g.d]) (K27.ea_cons (e_var rfl rd) K27.ea_nil) ⟨g, rfl, ep g hgm, by omega, rfl⟩) hsz) fun v2 H4 e4 r4 => ?_
        refine ⟨v2, _, rfl, e3.trans e4, ex_t e4 hs, hx.mono e4, ?_⟩
        rw [et, List.flatMap_append, List.map_append]
        have e5 : [g].flatMap Fm.cmps = g.cmps := by simp
        rw [e5]
        exact r4
    · rintro p xs σ' H' ⟨v, o, rfl, e3, hs, hx, rv⟩
      rw [List.length_map, List.take_length] at rv
      exact b_ret (Ex.refl H') (e_var rfl rv) fun w H4 e4 => q w H4 (e3.trans e4)
/-! ### good -/
theorem b_chain {σ : L2.St} {H0 H : Hp} {D : Ends} {tz : TS} {t1 t2 t3 : TT} {a1 a2 a3 : TE} {k : Nat} {v : V} {b1 b2 b3 : Bool} (e0 : Ex H0 H) (h1 : EvT t1 σ H0 b1) (h2 : EvT t2 σ H0 b2) (h3 : EvT t3 σ H0 b3) (w1 : b1 = true → Ev a1 σ H0 v) (w2 : b1 = false → b2 = true → Ev a2 σ H0 v) (w3 : b1 = false → b2 = false → b3 = true → Ev a3 σ H0 v)
    (hn : b1 = true ∨ b2 = true ∨ b3 = true) (q : ∀ H1, Ex H0 H1 → tz D (σ.set k (some v)) H1) : tSeq (tIfS t1 (tAsg a1 (gName k)) (tIfS t2 (tAsg a2 (gName k)) (tIfS t3 (tAsg a3 (gName k)) tNext))) tz D σ H := by
  cases b1 with
  | true => exact b_yes e0 h1 rfl fun H1 e1 => b_asg1 (D := { D with nx := tz D }) e1 (w1 rfl) q
  | false =>
    refine b_no e0 h1 rfl fun H1 e1 => ?_
    cases b2 with
    | true => exact b_yes1 (D := { D with nx := tz D }) e1 h2 rfl fun H2 e2 => b_asg1 (D := { D with nx := tz D }) e2 (w2 rfl rfl) q
    | false =>
      refine b_no1 (D := { D with nx := tz D }) e1 h2 rfl fun H2 e2 => ?_
      have hb3 : b3 = true := by
        rcases hn with z | z | z
        · cases z
        · cases z
        · exact z
      exact b_yes1 (D := { D with nx := tz D }) e2 h3 hb3 fun H3 e3 => b_asg1 (D := { D with nx := tz D }) e3 (w3 rfl rfl hb3) q
def wsT : List V := [.str "true", .str "false"]
def wsU : List V := [.str "not", .str "next", .str "eventually", .str "always"]
def wsB : List V := [.str "and", .str "or", .str "implies", .str "same", .str "until", .str "release", .str "unless", .str "strong"]
abbrev s__law_good : Stmt := topS 55
abbrev N__law_good : List Str := ["_law_tree", "_law_allowed", "_law_comparison", "_law_parts", "_law_part"]
theorem sc__law_good : FnScope N__law_good ["_law_tree", "_law_allowed"] (defScope s__law_good) := ⟨rfl, rfl, rfl, by decide +kernel, rfl, by decide +kernel, by decide +kernel⟩
def R_good (n : Nat) : Rl := fun ds d => ∃ (f : Fm) (N : List Str) (A : List Fm), ds = [f.d, .list (A.map Fm.d)] ∧ f.fine N ∧ f.dp ≤ n ∧ (∀ c ∈ f.cmps, c ∈ A) ∧ (∀ c ∈ A, isCmp c = true ∧ c.fine N) ∧ A.length ≤ 5000 ∧ d = .bool true
theorem ok_good (Z_isinstance : mg "isinstance" = none) (Z_tuple : mg "tuple" = none) (Z_str : mg "str" = none) (Z_len : mg "len" = none) (G__law_same : FnAt P w K mg base 6 "_law_same" ["_law_actual", "_law_expected"] (spR K (R_same 5))) (D : Def K mg "_law_good" s__law_good ["_law_tree", "_law_allowed"]) :
    ∀ n : Nat, FnAt P w K mg base (n + 7) "_law_good" ["_law_tree", "_law_allowed"] (spR K (R_good n))
  | 0 => FnAt.none D fun vs H Q E h => by
    obtain ⟨ds, r, _, ⟨f, N, A, _, _, h, _⟩, _⟩ := h
    have := dp_pos f
    omega
  | n + 1 => by
    have G__law_good := ok_good Z_isinstance Z_tuple Z_str Z_len G__law_same D n
    refine D.ok sc__law_good (fun ds d ⟨f, N, A, h, _⟩ => by rw [h] <;> rfl) fun f0 cdv A0 outer s H vs Q E ds d hr hv hR q => ?_
    obtain ⟨f, N, A, rfl, hf, hd, hA, hAc, hAl, rfl⟩ := hR
    obtain ⟨v0, v1, rfl, h0, h1⟩ := hv.i2
    refine ⟨_, (pss_cons (ps_if (PW.pt (pw_or (pt_not (pt_val (pe_callB call_isi (by rfl) Z_isinstance bt_isinstance (pa_cons (pv 0) (pa_cons (pe_bltn (v := .ty "tuple") (by rfl) Z_tuple bt_tuple rfl) pa_nil))))) (pw_or (pt_cmpR op_eq (pe_callB call_lenS (by rfl) Z_len PySem.boot_len (pa_cons (pv 0) pa_nil)) pe_int (nomark _)) (pw_or1 (pt_not (pt_val (pe_callB call_isi (by rfl) Z_isinstance bt_isinstance (pa_cons (pe_ix ix_tup (pv 0) pe_int (fun _ _ => rfl)) (pa_cons (pe_bltn (v := .ty "str") (by rfl) Z_str bt_str rfl) pa_nil))))))))) (pss_one (ps_ret pe_bl)) pss_nil)
      (pss_cons (ps_if (pt_cmpR op_in_seq (pe_ix ix_tup (pv 0) pe_int (fun _ _ => rfl)) (pe_tup (pa_cons pe_str (pa_cons pe_str (pa_cons pe_str pa_nil)))) (by rfl)) (pss_cons (ps_for PassesOwn.never rfl (pi_list (pv 1)) (pg_name (i := 2) sc__law_good.nd rfl (by first | exact Or.inl rfl | exact Or.inr rfl)) (pss_one (ps_if (pt_val (pe_callX G__law_same hr (pa_cons (pv 0) (pa_cons (pv 2) pa_nil)))) (pss_one (ps_ret pe_bl)) pss_nil)))
      (pss_one (ps_ret pe_bl))) pss_nil)
      (pss_cons (ps_set (i := 3) sc__law_good.nd rfl (by first | exact Or.inl rfl | exact Or.inr rfl) (pe_un un_neg pe_int))
      (pss_cons (ps_if (pt_cmpR op_in_seq (pe_ix ix_tup (pv 0) pe_int (fun _ _ => rfl)) (pe_tup (pa_cons pe_str (pa_cons pe_str pa_nil))) (by rfl)) (pss_one (ps_set (i := 3) sc__law_good.nd rfl (by first | exact Or.inl rfl | exact Or.inr rfl) pe_int)) (pss_one (ps_if (pt_cmpR op_in_seq (pe_ix ix_tup (pv 0) pe_int (fun _ _ => rfl)) (pe_tup (pa_cons pe_str (pa_cons pe_str (pa_cons pe_str (pa_cons pe_str pa_nil))))) (by rfl)) (pss_one (ps_set (i := 3) sc__law_good.nd rfl (by first | exact Or.inl rfl | exact Or.inr rfl) pe_int)) (pss_one (ps_if (pt_cmpR op_in_seq (pe_ix ix_tup (pv 0) pe_int (fun _ _ => rfl)) (pe_tup (pa_cons pe_str (pa_cons pe_str (pa_cons pe_str (pa_cons pe_str (pa_cons pe_str (pa_cons pe_str (pa_cons pe_str (pa_cons pe_str pa_nil))))))))) (by rfl)) (pss_one (ps_set (i := 3) sc__law_good.nd rfl (by first | exact Or.inl rfl | exact Or.inr rfl) pe_int)) pss_nil)))))
      (pss_cons (ps_if (pt_cmpR op_ne (pe_callB call_lenS (by rfl) Z_len PySem.boot_len (pa_cons (pv 0) pa_nil)) (pe_op op_add (pv 3) pe_int) (nomark _)) (pss_one (ps_ret pe_bl)) pss_nil)
      (pss_cons (ps_for PassesOwn.never rfl (pi_tup (pe_slice sl_tupA (pv 0) (po_some pe_int) po_none)) (pg_name (i := 4) sc__law_good.nd rfl (by first | exact Or.inl rfl | exact Or.inr rfl)) (pss_one (ps_if (pt_not (pt_val (pe_callX G__law_good hr (pa_cons (pv 4) (pa_cons (pv 1) pa_nil))))) (pss_one (ps_ret pe_bl)) pss_nil)))
      (pss_one (ps_ret pe_bl)))))))), ?_⟩
    try dsimp only [cxOf]
    -- its word and parts
    obtain ⟨x, rest, ed⟩ : ∃ (x : Str) (rest : List PyData), f.d = .tuple (.str x :: rest) := by cases f <;> exact ⟨_, _, rfl⟩
    have h0' := h0
    rw [ed] at h0'
    refine b_skip (b := false) (Ex.refl H) (et_or (a := false) (b := false) (et_not (a := true) (et_B (ev_isiT (e_var rfl h0') (by decide +kernel)))) fun _ => et_or (a := false) (b := false) (et_test (ev_is (ev_op (ev_lenD (.inr (e_var rfl h0'))) ev_c (rv_eq rfl)) ?_)) fun _ => et_not (a := true) (et_B (ev_isiS (e_ixT (e_var rfl h0') ev_c at0) (by decide +kernel)))) rfl fun H1 e1 => ?_
    · rw [dec_int2]
      refine congrArg V.bl (decide_eq_false ?_)
      rw [List.length_cons]
      omega
    by_cases hc : isCmp f = true
    · obtain ⟨c, t, u, rfl⟩ : ∃ c t u, f = .cmp c t u := by cases f <;> first | exact ⟨_, _, _, rfl⟩ | cases hc
      refine b_yes e1 (by walk_at "ev") (by cases c <;> decide +kernel) fun H2 e2 => ?_
      have hmem := hA (.cmp c t u) (by simp [Fm.cmps])
      refine b_forE (Ex.refl H2) (e_var rfl (h1.mono e2)) (fun p xs i σ' H' => (∃ o2, σ' = [some v0, some v1, o2, none, none]) ∧ Ex H H' ∧ H' p = some (.lst xs) ∧ DaAll K H' xs (A.map Fm.d) ∧ ∀ j g, j < i → A[j]? = some g → smF (Fm.cmp c t u).d g.d = false) (fun p xs H3 e3 hp hx => ⟨⟨none, rfl⟩, e2.trans e3, hp, hx, fun j g hj => by omega⟩) (fun p xs i σ' H' h => h.2.2.1) ?_ ?_
      · rintro p xs i y d σ' H' hl hy hd' ⟨⟨o2, rfl⟩, e3, hp, hx, hno⟩
        obtain ⟨d2, hd2, rd⟩ := hx.get hy
        rw [hd'] at hd2
        cases hd2
        rw [List.getElem?_map] at hd'
        cases hAi : A[i]? with
        | none =>
          rw [hAi] at hd'
          cases hd'
        | some g =>
          rw [hAi] at hd'
          cases hd'
          obtain ⟨gc, gf⟩ := hAc g (List.mem_of_getElem? hAi)
          obtain ⟨c', t', u', rfl⟩ : ∃ c t u, g = .cmp c t u := by cases g <;> first | exact ⟨_, _, _, rfl⟩ | cases gc
          show tIfS _ _ _ _ [some v0, some v1, some y, none, none] H'
          refine b_when1 (Ex.refl H') (et_B (ev_bl (e_call (ds := [(Fm.cmp c t u).d, (Fm.cmp c' t' u').d]) (d := .bool (smF (Fm.cmp c t u).d (Fm.cmp c' t' u').d)) (K27.ea_cons (e_var rfl (h0.mono e3)) (K27.ea_cons (e_var rfl rd) K27.ea_nil)) ⟨_, _, rfl, cmp_plq _ _ _, cmp_plq _ _ _, cmp_dq gf, rfl⟩))) (fun hb H4 e4 => ?_) fun hb H4 e4 => ?_
          · exact b_ret e4 (e_bl ev_c) fun v H5 e5 => q v H5 (e3.trans e5)
          · refine ⟨⟨_, rfl⟩, e3.trans e4, e4 _ _ hp, hx.mono e4, fun j g hj hg => ?_⟩
            by_cases hji : j < i
            · exact hno j g hji hg
            · have ej : j = i := by omega
              subst ej
              rw [hAi] at hg
              cases hg
              exact hb
      · rintro p xs σ' H' ⟨⟨o2, rfl⟩, e3, hp, hx, hno⟩
        rw [List.length_map] at hno
        obtain ⟨j, hj⟩ := List.mem_iff_getElem?.mp hmem
        have := hno j _ (List.getElem?_eq_some_iff.mp hj).1 hj
        rw [smF_refl _ (cmp_plq _ _ _)] at this
        cases this
    obtain ⟨x, fs, ed, ex, ew, ec, ep, ef⟩ : ∃ (x : Str) (fs : List Fm), f.d = .tuple (.str x :: fs.map Fm.d) ∧ inV (.str x) [.str "equal", .str "below", .str "upto"] = false ∧
        ((fs.length = 0 ∧ inV (.str x) wsT = true) ∨ (fs.length = 1 ∧ inV (.str x) wsT = false ∧ inV (.str x) wsU = true) ∨ (fs.length = 2 ∧ inV (.str x) wsT = false ∧ inV (.str x) wsU = false ∧ inV (.str x) wsB = true)) ∧
        (∀ g ∈ fs, ∀ c ∈ g.cmps, c ∈ A) ∧ (∀ g ∈ fs, g.dp ≤ n) ∧ ∀ g ∈ fs, g.fine N := by
      cases f with
      | tt => exact ⟨_, [], rfl, by decide +kernel, .inl ⟨rfl, by decide +kernel⟩, (fun _ h => by cases h), (fun _ h => by cases h), fun _ h => by cases h⟩
      | ff => exact ⟨_, [], rfl, by decide +kernel, .inl ⟨rfl, by decide +kernel⟩, (fun _ h => by cases h), (fun _ h => by cases h), fun _ h => by cases h⟩
      | cmp c t u => exact absurd rfl hc
      | un o g => exact ⟨_, [g], rfl, by cases o <;> decide +kernel, .inr (.inl ⟨rfl, by cases o <;> decide +kernel, by cases o <;> decide +kernel⟩), (fun z hz c hcz => by rw [List.mem_singleton.mp hz] at hcz; exact hA c hcz), (fun z hz => by rw [List.mem_singleton.mp hz]; exact Nat.le_of_succ_le_succ hd), fun z hz => by rw [List.mem_singleton.mp hz]; exact hf⟩
      | bi o g h =>
        have hd' : max g.dp h.dp + 1 ≤ n + 1 := hd
        refine ⟨_, [g, h], rfl, by cases o <;> decide +kernel, .inr (.inr ⟨rfl, by cases o <;> decide +kernel, by cases o <;> decide +kernel, by cases o <;> decide +kernel⟩), fun z hz c hcz => ?_, fun z hz => ?_, fun z hz => ?_⟩
        · rcases List.mem_cons.mp hz with rfl | hz
          · exact hA c (List.mem_append.mpr (.inl hcz))
          · rw [List.mem_singleton.mp hz] at hcz
            exact hA c (List.mem_append.mpr (.inr hcz))
        · rcases List.mem_cons.mp hz with rfl | hz
          · omega
          · rw [List.mem_singleton.mp hz]
            omega
        · rcases List.mem_cons.mp hz with rfl | hz
          · exact hf.1
          · rw [List.mem_singleton.mp hz]
            exact hf.2
    rw [ed] at h0
    clear h0'
    refine b_skip e1 (by walk_at "ev") ex fun H2 e2 => ?_
    refine b_asg (v := .int (-1)) e2 (ev_neg ev_c) fun H3 e3 => ?_
    show tSeq _ _ _ [some v0, some v1, none, some (.int (-1)), none] H3
    refine b_chain (k := 3) (v := .int (fs.length : Int)) e3 (by walk_at "ev") (by walk_at "ev") (by walk_at "ev") (fun z => ?_) (fun z z' => ?_) (fun z z' z'' => ?_) ?_ fun H4 e4 => ?_
    · rcases ew with ⟨l, h1⟩ | ⟨l, h1, h2⟩ | ⟨l, h1, h2, h3⟩
      · rw [l]; exact ev_c
      · exact absurd (h1.symm.trans z) (by decide)
      · exact absurd (h1.symm.trans z) (by decide)
    · rcases ew with ⟨l, h1⟩ | ⟨l, h1, h2⟩ | ⟨l, h1, h2, h3⟩
      · exact absurd (h1.symm.trans z) (by decide)
      · rw [l]; exact ev_c
      · exact absurd (h2.symm.trans z') (by decide)
    · rcases ew with ⟨l, h1⟩ | ⟨l, h1, h2⟩ | ⟨l, h1, h2, h3⟩
      · exact absurd (h1.symm.trans z) (by decide)
      · exact absurd (h2.symm.trans z') (by decide)
      · rw [l]; exact ev_c
    · rcases ew with ⟨l, h1⟩ | ⟨l, h1, h2⟩ | ⟨l, h1, h2, h3⟩
      · exact .inl h1
      · exact .inr (.inl h2)
      · exact .inr (.inr h3)
    show tSeq _ _ _ [some v0, some v1, none, some (.int (fs.length : Int)), none] H4
    refine b_skip (b := false) e4 (et_test (ev_is (ev_op (ev_lenD (.inr (e_var rfl h0))) (ev_op (ev_var rfl) ev_c rv_I0) (rv_ne rfl)) ?_)) rfl fun H5 e5 => ?_
    · rw [dec_int2]
      refine congrArg V.bl ?_
      rw [List.length_cons, List.length_map, decide_eq_true (by omega)] <;> rfl
    have t1 : K27.E K (tSl (rSlA K) (tVar 0) (tPart (tC (.int 1))) tNoPart) [some v0, some v1, none, some (.int (fs.length : Int)), none] H5 (.tuple (fs.map Fm.d)) := e_is (e_slT (e_var rfl (h0.mono e5)) (eo_some ev_c) eo_none (tl_whole _ _)) (by rw [tl_cut])
    refine b_forT (Ex.refl H5) t1 (fun p xs i σ' H' => ∃ o, σ' = [some v0, some v1, none, some (.int (fs.length : Int)), o] ∧ Ex H H' ∧ SqT K H' p xs ∧ DaAll K H' xs (fs.map Fm.d)) (fun p xs H6 e6 hs hx => ⟨none, rfl, e5.trans e6, hs, hx⟩) (fun p xs i σ' H' ⟨o, _, _, h, _⟩ => h) ?_ ?_
    · rintro p xs i y d σ' H' hl hy hd' ⟨o, rfl, e6, hs, hx⟩
      obtain ⟨d2, hd2, rd⟩ := hx.get hy
      rw [hd'] at hd2
      cases hd2
      rw [List.getElem?_map] at hd'
      cases hfi : fs[i]? with
      | none =>
        rw [hfi] at hd'
        cases hd'
      | some g =>
        rw [hfi] at hd'
        cases hd'
        have hgm := List.mem_of_getElem? hfi
        show tIfS _ _ _ _ [some v0, some v1, none, some (.int (fs.length : Int)), some y] H'
        refine b_no1 (b := false) (Ex.refl H') (et_not (a := true) (et_B (ev_bl (e_call (ds := [g.d, .list (A.map Fm.d)]) (K27.ea_cons (e_var rfl rd) (K27.ea_cons (e_var rfl (h1.mono e6)) K27.ea_nil)) ⟨g, N, A, rfl, ef g hgm, ep g hgm, ec g hgm, hAc, hAl, rfl⟩)))) rfl fun H7 e7 => ?_
        exact ⟨_, rfl, e6.trans e7, ex_t e7 hs, hx.mono e7⟩
    · rintro p xs σ' H' ⟨o, rfl, e6, hs, hx⟩
      exact b_ret (Ex.refl H') (e_bl ev_c) fun w H7 e7 => q w H7 (e6.trans e7)
end
end K27

/-! K27: the law's values, walk, truths along a run. -/
namespace K27
open PySem PySem.Spec PyProof.Rows L2 Evl
local macro_rules | `(tactic| walk_at "ev") => `(tactic| first
  | exact ev_c
  | exact ev_var rfl
  | (refine' et_test ?h; (case h => walk_at "ev"))
  | (refine' et_B ?h; (case h => walk_at "ev"))
  | (refine' et_not ?h; (case h => walk_at "ev"))
  | (refine' et_and ?a (fun _ => ?b); (case a => walk_at "ev"); (case b => walk_at "ev"))
  | (refine' et_or ?a (fun _ => ?b); (case a => walk_at "ev"); (case b => walk_at "ev"))
  | (refine' ev_op ?a ?b (rv_eq ?c); (case a => walk_at "ev"); (case b => walk_at "ev"); (case c => rfl))
  | (refine' ev_op ?a ?b rv_I0; (case a => walk_at "ev"); (case b => walk_at "ev"))
  | (refine' ev_inU ?a ?b ?c ?d; (case a => walk_at "ev"); (case b => (refine' eu_tup ?x ?y; (case x => walk_at "ev"); (case y => decide))); (case c => rfl); (case d => rfl))
  | (refine' ev_str (e_ixT ?a ?b ?c); (case a => walk_at "ed"); (case b => walk_at "ev"); (case c => first | exact at0 | exact at1 | exact at2))
  | (refine' ev_int (e_ixT ?a ?b ?c); (case a => walk_at "ed"); (case b => walk_at "ev"); (case c => first | exact at0 | exact at1 | exact at2))
  | exact Evl.ea_nil
  | (refine' Evl.ea_cons ?a ?b; (case a => walk_at "ev"); (case b => walk_at "ev")))
local macro_rules | `(tactic| walk_at "ed") => `(tactic| first
  | exact e_var rfl (by assumption)
  | exact e_var rfl (by constructor)
  | exact K27.ea_nil
  | (refine' K27.ea_cons ?a ?b; (case a => walk_at "ed"); (case b => walk_at "ed"))
  | (refine' e_tup ?a ?b; (case a => walk_at "ed"); (case b => (simp only [List.length_cons, List.length_nil, List.length_append]; omega)))
  | (refine' e_ixT ?a ?b ?c; (case a => walk_at "ed"); (case b => walk_at "ev"); (case c => first | exact at0 | exact at1 | exact at2))
  | (refine' e_ev ?a ?b; (case a => walk_at "ev"); (case b => first | exact .str _ | exact .int _ | exact .bl _ | assumption)))
theorem rOf_ix {x : Str} : ∀ {N : List Str} {is : List Int}, is.length = N.length → x ∈ N → ∃ j, N[j]? = some x ∧ (∀ (m : Nat) (z : Str), m < j → N[m]? = some z → z ≠ x) ∧ is[j]? = some (rOf N is x)
  | [], _, _, h => by cases h
  | y :: N, [], hl, _ => by simp at hl
  | y :: N, i :: is, hl, h => by
    by_cases e : x = y
    · subst e
      refine ⟨0, rfl, fun m z hm => by omega, ?_⟩
      have e2 : rOf (x :: N) (i :: is) x = i := by unfold rOf; simp [List.lookup]
      rw [e2] <;> rfl
    · have hx : x ∈ N := by
        rcases List.mem_cons.mp h with z | z
        · exact absurd z e
        · exact z
      obtain ⟨j, h1, h2, h3⟩ := rOf_ix (N := N) (is := is) (by simpa using hl) hx
      have e2 : rOf (y :: N) (i :: is) x = rOf N is x := by
        unfold rOf
        simp only [List.zip_cons_cons, List.lookup]
        rw [show (x == y) = false from beq_eq_false_iff_ne.mpr e]
      refine ⟨j + 1, by simpa using h1, fun m z hm hz => ?_, by rw [e2]; simpa using h3⟩
      cases m with
      | zero =>
        simp at hz
        subst hz
        exact fun z => e z.symm
      | succ m => exact h2 m z (by omega) (by simpa using hz)
def tmpF (o : Bi) (n b : Nat) (F G : Nat → Bool) (p : Nat) : Bool := match o with
  | .untl => dec (nx n b) F G false n p
  | .unl => dec (nx n b) F G true n p
  | .str => dec (nx n b) G (fun q => F q && G q) false n p
  | _ => !dec (nx n b) (fun q => !F q) (fun q => !G q) false n p
section
variable {P : Program} {w : World} {K : PySem.W.Frag} {mg : Str → Option Value} {base : Heap}
theorem ev_index {σ : L2.St} {H : Hp} {ta te : TE} {N : List Str} {x : Str} {j : Nat} (h : E K ta σ H (.list (N.map PyData.str))) (hx : Ev te σ H (.str x)) (hj : N[j]? = some x) (hno : ∀ (m : Nat) (z : Str), m < j → N[m]? = some z → z ≠ x) : Ev (tBM K "list" (rIndex K) ta (tCons te tNil)) σ H (.int (j : Nat)) := fun H1 e Q q =>
  h H1 e _ fun v H2 e2 r => by
    obtain ⟨a, xs, rfl, hs, hd⟩ := r.lst_inv
    obtain rfl := hd.strs
    refine ⟨Or.inl ⟨rfl, _, sq_of hs⟩, hx H2 (e.trans e2) _ fun H3 e3 => ⟨a, N.map V.str, .str x, j, .str x, rfl, rfl, sq_of (e3 _ _ hs), rfl, by rw [List.all_map]; exact List.all_eq_true.mpr fun _ _ => rfl, by rw [List.getElem?_map, hj] <;> rfl, ?_, fun m z' hm hz => ?_, q H3 (e2.trans e3)⟩⟩
    · show (x == x) = true
      exact beq_self_eq_true x
    · rw [List.getElem?_map] at hz
      cases hN : N[m]? with
      | none =>
        rw [hN] at hz
        cases hz
      | some y =>
        rw [hN] at hz
        cases hz
        show (y == x) = false
        exact beq_eq_false_iff_ne.mpr (hno m y hm hN)
abbrev s__law_value : Stmt := topS 56
abbrev N__law_value : List Str := ["_law_term_here", "_law_names_here", "_law_state", "_law_first", "_law_second"]
theorem sc__law_value : FnScope N__law_value ["_law_term_here", "_law_names_here", "_law_state"] (defScope s__law_value) := ⟨rfl, rfl, rfl, by decide +kernel, rfl, by decide +kernel, by decide +kernel⟩
def R_value (N : List Str) (n : Nat) : Rl := fun ds d => ∃ (t : Tm) (is : List Int), ds = [t.d, .list (N.map PyData.str), stD is] ∧ t.fine N ∧ t.dp ≤ n ∧ StOk N is ∧ d = .int (t.val (rOf N is))
theorem ok_value {N : List Str} (Z_min : mg "min" = none) (Z_max : mg "max" = none) (D : Def K mg "_law_value" s__law_value ["_law_term_here", "_law_names_here", "_law_state"]) :
    ∀ n : Nat, FnAt P w K mg base (n + 1) "_law_value" ["_law_term_here", "_law_names_here", "_law_state"] (spR K (R_value N n))
  | 0 => FnAt.none D fun vs H Q E h => by
    obtain ⟨ds, r, _, ⟨t, _, _, _, h, _⟩, _⟩ := h
    cases t <;> simp [Tm.dp] at h
  | n + 1 => by
    have G__law_value : FnAt P w K mg base (n + 1) "_law_value" ["_law_term_here", "_law_names_here", "_law_state"] (spR K (R_value N n)) := ok_value Z_min Z_max D n
    refine D.ok sc__law_value (fun ds d ⟨t, is, h, _⟩ => by rw [h] <;> rfl) fun f0 cdv A0 outer s H vs Q E ds d hr hv hR q => ?_
    obtain ⟨t, is, rfl, hf, hd, hst, rfl⟩ := hR
    obtain ⟨v0, v1, v2, rfl, h0, h1, h2⟩ := hv.i3
    refine ⟨_, (pss_cons (ps_if (pt_cmpR op_eq (pe_ix ix_tup (pv 0) pe_int (fun _ _ => rfl)) pe_str (nomark _)) (pss_one (ps_ret (pe_ix ix_tup (pv 0) pe_int (fun _ _ => rfl)))) pss_nil)
      (pss_cons (ps_if (pt_cmpR op_eq (pe_ix ix_tup (pv 0) pe_int (fun _ _ => rfl)) pe_str (nomark _)) (pss_one (ps_ret (pe_ix ix_tup (pv 2) (pe_bm PySem.F.plainAttrs_list PySem.F.slot_list_index PySem.F.type_list_index mt_index (pv 1) (pa_cons (pe_ix ix_tup (pv 0) pe_int (fun _ _ => rfl)) pa_nil)) (fun _ _ => rfl)))) pss_nil)
      (pss_cons (ps_set (i := 3) sc__law_value.nd rfl (by first | exact Or.inl rfl | exact Or.inr rfl) (pe_callX G__law_value hr (pa_cons (pe_ix ix_tup (pv 0) pe_int (fun _ _ => rfl)) (pa_cons (pv 1) (pa_cons (pv 2) pa_nil)))))
      (pss_cons (ps_if (pt_cmpR op_eq (pe_ix ix_tup (pv 0) pe_int (fun _ _ => rfl)) pe_str (nomark _)) (pss_one (ps_ret (pe_op op_sub pe_int (pv 3)))) pss_nil)
      (pss_cons (ps_if (pt_cmpR op_eq (pe_ix ix_tup (pv 0) pe_int (fun _ _ => rfl)) pe_str (nomark _)) (pss_one (ps_ret (pe_op op_fdiv (pv 3) (pe_ix ix_tup (pv 0) pe_int (fun _ _ => rfl))))) pss_nil)
      (pss_cons (ps_if (pt_cmpR op_eq (pe_ix ix_tup (pv 0) pe_int (fun _ _ => rfl)) pe_str (nomark _)) (pss_one (ps_ret (pe_op op_sub (pv 3) (pe_op op_mul (pe_op op_fdiv (pv 3) (pe_ix ix_tup (pv 0) pe_int (fun _ _ => rfl))) (pe_ix ix_tup (pv 0) pe_int (fun _ _ => rfl)))))) pss_nil)
      (pss_cons (ps_set (i := 4) sc__law_value.nd rfl (by first | exact Or.inl rfl | exact Or.inr rfl) (pe_callX G__law_value hr (pa_cons (pe_ix ix_tup (pv 0) pe_int (fun _ _ => rfl)) (pa_cons (pv 1) (pa_cons (pv 2) pa_nil)))))
      (pss_cons (ps_if (pt_cmpR op_eq (pe_ix ix_tup (pv 0) pe_int (fun _ _ => rfl)) pe_str (nomark _)) (pss_one (ps_ret (pe_op op_add (pv 3) (pv 4)))) pss_nil)
      (pss_cons (ps_if (pt_cmpR op_eq (pe_ix ix_tup (pv 0) pe_int (fun _ _ => rfl)) pe_str (nomark _)) (pss_one (ps_ret (pe_op op_sub (pv 3) (pv 4)))) pss_nil)
      (pss_cons (ps_if (pt_cmpR op_eq (pe_ix ix_tup (pv 0) pe_int (fun _ _ => rfl)) pe_str (nomark _)) (pss_one (ps_ret (pe_op op_mul (pv 3) (pv 4)))) pss_nil)
      (pss_cons (ps_if (pt_cmpR op_eq (pe_ix ix_tup (pv 0) pe_int (fun _ _ => rfl)) pe_str (nomark _)) (pss_one (ps_ret (pe_callB (call_minS rfl) (by rfl) Z_min bt_min (pa_cons (pv 3) (pa_cons (pv 4) pa_nil))))) pss_nil)
      (pss_one (ps_ret (pe_callB (call_maxS rfl) (by rfl) Z_max bt_max (pa_cons (pv 3) (pa_cons (pv 4) pa_nil)))))))))))))))), ?_⟩
    try dsimp only [cxOf]
    cases t with
    | num k =>
      refine b_yes (Ex.refl H) (by walk_at "ev") (by decide +kernel) fun H1 e1 => ?_
      exact b_ret e1 (e_ixT (e_var rfl h0) ev_c at1) q
    | nm x =>
      obtain ⟨j, j1, j2, j3⟩ := rOf_ix hst.1 hf
      refine b_skip (Ex.refl H) (by walk_at "ev") (by decide +kernel) fun H1 e1 => ?_
      refine b_yes e1 (by walk_at "ev") (by decide +kernel) fun H2 e2 => ?_
      exact b_ret e2 (e_ixT (e_var rfl h2) (ev_index (e_var rfl h1) (ev_str (e_ixT (e_var rfl h0) ev_c at1)) j1 j2) (atI_nat (by rw [List.getElem?_map, j3] <;> rfl))) q
    | neg t =>
      have hd' : t.dp ≤ n := Nat.le_of_succ_le_succ hd
      refine b_skip (Ex.refl H) (by walk_at "ev") (by decide +kernel) fun H1 e1 => ?_
      refine b_skip e1 (by walk_at "ev") (by decide +kernel) fun H2 e2 => ?_
      refine b_asg (v := .int (t.val (rOf N is))) e2 (ev_int (e_call (ds := [t.d, .list (N.map PyData.str), stD is]) (K27.ea_cons (e_ixT (e_var rfl h0) ev_c at1) (K27.ea_cons (e_var rfl h1) (K27.ea_cons (e_var rfl h2) K27.ea_nil))) ⟨t, is, rfl, hf, hd', hst, rfl⟩)) fun H3 e3 => ?_
      refine b_yes e3 (by walk_at "ev") (by decide +kernel) fun H4 e4 => ?_
      exact b_ret e4 (e_int (ev_is (ev_op ev_c (ev_var rfl) rv_I0) (congrArg V.int (Int.zero_sub _)))) q
    | opk o t k =>
      have hd' : t.dp ≤ n := Nat.le_of_succ_le_succ hd
      refine b_skip (Ex.refl H) (by walk_at "ev") (by cases o <;> decide +kernel) fun H1 e1 => ?_
      refine b_skip e1 (by walk_at "ev") (by cases o <;> decide +kernel) fun H2 e2 => ?_
      refine b_asg (v := .int (t.val (rOf N is))) e2 (ev_int (e_call (ds := [t.d, .list (N.map PyData.str), stD is]) (K27.ea_cons (e_ixT (e_var rfl h0) ev_c at1) (K27.ea_cons (e_var rfl h1) (K27.ea_cons (e_var rfl h2) K27.ea_nil))) ⟨t, is, rfl, hf.1, hd', hst, rfl⟩)) fun H3 e3 => ?_
      refine b_skip e3 (by walk_at "ev") (by cases o <;> decide +kernel) fun H4 e4 => ?_
      have hk1 := hf.2.1
      have hk2 := hf.2.2
      cases o with
      | quo =>
        refine b_yes e4 (by walk_at "ev") (by decide +kernel) fun H5 e5 => ?_
        exact b_ret e5 (e_int (ev_op (ev_var rfl) (ev_int (e_ixT (e_var rfl h0) ev_c at2)) (rv_I ⟨hk1, by omega⟩))) q
      | rem =>
        refine b_skip e4 (by walk_at "ev") (by decide +kernel) fun H5 e5 => ?_
        refine b_yes e5 (by walk_at "ev") (by decide +kernel) fun H6 e6 => ?_
        refine b_ret e6 (e_int (ev_is (ev_op (ev_var rfl) (ev_op (ev_op (ev_var rfl) (ev_int (e_ixT (e_var rfl h0) ev_c at2)) (rv_I ⟨hk1, by omega⟩)) (ev_int (e_ixT (e_var rfl h0) ev_c at2)) (rv_I (.inr ⟨by omega, by omega⟩))) rv_I0) (congrArg V.int ?_))) q
        show t.val (rOf N is) - t.val (rOf N is) / k * k = t.val (rOf N is) % k
        rw [Int.emod_def, Int.mul_comm]
    | op2 o t u =>
      have hd' : t.dp ≤ n ∧ u.dp ≤ n := by
        have : max t.dp u.dp + 1 ≤ n + 1 := hd
        omega
      refine b_skip (Ex.refl H) (by walk_at "ev") (by cases o <;> decide +kernel) fun H1 e1 => ?_
      refine b_skip e1 (by walk_at "ev") (by cases o <;> decide +kernel) fun H2 e2 => ?_
      refine b_asg (v := .int (t.val (rOf N is))) e2 (ev_int (e_call (ds := [t.d, .list (N.map PyData.str), stD is]) (K27.ea_cons (e_ixT (e_var rfl h0) ev_c at1) (K27.ea_cons (e_var rfl h1) (K27.ea_cons (e_var rfl h2) K27.ea_nil))) ⟨t, is, rfl, hf.1, hd'.1, hst, rfl⟩)) fun H3 e3 => ?_
      refine b_skip e3 (by walk_at "ev") (by cases o <;> decide +kernel) fun H4 e4 => ?_
      refine b_skip e4 (by walk_at "ev") (by cases o <;> decide +kernel) fun H5 e5 => ?_
      refine b_skip e5 (by walk_at "ev") (by cases o <;> decide +kernel) fun H6 e6 => ?_
      refine b_asg (v := .int (u.val (rOf N is))) e6 (ev_int (e_call (ds := [u.d, .list (N.map PyData.str), stD is]) (K27.ea_cons (e_ixT (e_var rfl h0) ev_c at2) (K27.ea_cons (e_var rfl h1) (K27.ea_cons (e_var rfl h2) K27.ea_nil))) ⟨u, is, rfl, hf.2.1, hd'.2, hst, rfl⟩)) fun H7 e7 => ?_
      refine b_when e7 (by walk_at "ev") (fun b1 H8 e8 => ?_) fun b1 H8 e8 => ?_
      · obtain rfl : o = .plus := by cases o <;> first | rfl | exact absurd b1 (by decide +kernel)
        exact b_ret e8 (e_int (ev_op (ev_var rfl) (ev_var rfl) rv_I0)) q
      refine b_when e8 (by walk_at "ev") (fun b2 H9 e9 => ?_) fun b2 H9 e9 => ?_
      · obtain rfl : o = .minus := by cases o <;> first | rfl | exact absurd b2 (by decide +kernel)
        exact b_ret e9 (e_int (ev_op (ev_var rfl) (ev_var rfl) rv_I0)) q
      refine b_when e9 (by walk_at "ev") (fun b3 H10 e10 => ?_) fun b3 H10 e10 => ?_
      · obtain rfl : o = .times := by cases o <;> first | rfl | exact absurd b3 (by decide +kernel)
        obtain ⟨x, rfl⟩ := hf.2.2 rfl
        exact b_ret e10 (e_int (ev_op (ev_var rfl) (ev_var rfl) (rv_I (.inl ((envOf hst) x hf.1).2)))) q
      refine b_when e10 (by walk_at "ev") (fun b4 H11 e11 => ?_) fun b4 H11 e11 => ?_
      · obtain rfl : o = .least := by cases o <;> first | rfl | exact absurd b4 (by decide +kernel)
        exact b_ret e11 (e_int (ev_min2 (ev_var rfl) (ev_var rfl))) q
      · obtain rfl : o = .most := by cases o <;> first | rfl | exact absurd b1 (by decide +kernel) | exact absurd b2 (by decide +kernel) | exact absurd b3 (by decide +kernel) | exact absurd b4 (by decide +kernel)
        exact b_ret e11 (e_int (ev_max2 (ev_var rfl) (ev_var rfl))) q
abbrev s__law_holds : Stmt := topS 57
abbrev N__law_holds : List Str := ["_law_comparison", "_law_names_here", "_law_state", "_law_first", "_law_second"]
theorem sc__law_holds : FnScope N__law_holds ["_law_comparison", "_law_names_here", "_law_state"] (defScope s__law_holds) := ⟨rfl, rfl, rfl, by decide +kernel, rfl, by decide +kernel, by decide +kernel⟩
def R_holds (N : List Str) : Rl := fun ds d => ∃ (c : Cm) (t u : Tm) (is : List Int), ds = [(Fm.cmp c t u).d, .list (N.map PyData.str), stD is] ∧ (Fm.cmp c t u).fine N ∧ StOk N is ∧ d = .bool (c.ap (t.val (rOf N is)) (u.val (rOf N is)))
theorem ok_holds {N : List Str} (G__law_value : FnAt P w K mg base 4 "_law_value" ["_law_term_here", "_law_names_here", "_law_state"] (spR K (R_value N 3))) (D : Def K mg "_law_holds" s__law_holds ["_law_comparison", "_law_names_here", "_law_state"]) :
    FnAt P w K mg base 5 "_law_holds" ["_law_comparison", "_law_names_here", "_law_state"] (spR K (R_holds N)) := by
  refine D.ok sc__law_holds (fun ds d ⟨c, t, u, is, h, _⟩ => by rw [h] <;> rfl) fun f0 cdv A0 outer s H vs Q E ds d hr hv hR q => ?_
  obtain ⟨c, t, u, is, rfl, hf, hst, rfl⟩ := hR
  obtain ⟨v0, v1, v2, rfl, h0, h1, h2⟩ := hv.i3
  refine ⟨_, (pss_cons (ps_set (i := 3) sc__law_holds.nd rfl (by first | exact Or.inl rfl | exact Or.inr rfl) (pe_callX G__law_value hr (pa_cons (pe_ix ix_tup (pv 0) pe_int (fun _ _ => rfl)) (pa_cons (pv 1) (pa_cons (pv 2) pa_nil)))))
      (pss_cons (ps_set (i := 4) sc__law_holds.nd rfl (by first | exact Or.inl rfl | exact Or.inr rfl) (pe_callX G__law_value hr (pa_cons (pe_ix ix_tup (pv 0) pe_int (fun _ _ => rfl)) (pa_cons (pv 1) (pa_cons (pv 2) pa_nil)))))
      (pss_cons (ps_if (pt_cmpR op_eq (pe_ix ix_tup (pv 0) pe_int (fun _ _ => rfl)) pe_str (nomark _)) (pss_one (ps_ret (pe_cmpR op_eq (pv 3) (pv 4) (nomark _)))) pss_nil)
      (pss_cons (ps_if (pt_cmpR op_eq (pe_ix ix_tup (pv 0) pe_int (fun _ _ => rfl)) pe_str (nomark _)) (pss_one (ps_ret (pe_cmpR op_lt (pv 3) (pv 4) (nomark _)))) pss_nil)
      (pss_one (ps_ret (pe_cmpR op_le (pv 3) (pv 4) (nomark _)))))))), ?_⟩
  try dsimp only [cxOf]
  refine b_asg (v := .int (t.val (rOf N is))) (Ex.refl H) (ev_int (e_call (ds := [t.d, .list (N.map PyData.str), stD is]) (K27.ea_cons (e_ixT (e_var rfl h0) ev_c at1) (K27.ea_cons (e_var rfl h1) (K27.ea_cons (e_var rfl h2) K27.ea_nil))) ⟨t, is, rfl, hf.1.1, hf.1.2, hst, rfl⟩)) fun H1 e1 => ?_
  refine b_asg (v := .int (u.val (rOf N is))) e1 (ev_int (e_call (ds := [u.d, .list (N.map PyData.str), stD is]) (K27.ea_cons (e_ixT (e_var rfl h0) ev_c at2) (K27.ea_cons (e_var rfl h1) (K27.ea_cons (e_var rfl h2) K27.ea_nil))) ⟨u, is, rfl, hf.2.1, hf.2.2, hst, rfl⟩)) fun H2 e2 => ?_
  refine b_when e2 (by walk_at "ev") (fun b1 H3 e3 => ?_) fun b1 H3 e3 => ?_
  · obtain rfl : c = .eq := by cases c <;> first | rfl | exact absurd b1 (by decide +kernel)
    refine b_ret e3 (e_bl (ev_is (ev_op (ev_var rfl) (ev_var rfl) (rv_eq rfl)) ?_)) q
    rw [dec_int2] <;> rfl
  refine b_when e3 (by walk_at "ev") (fun b2 H4 e4 => ?_) fun b2 H4 e4 => ?_
  · obtain rfl : c = .lt := by cases c <;> first | rfl | exact absurd b2 (by decide +kernel)
    exact b_ret e4 (e_bl (ev_op (ev_var rfl) (ev_var rfl) rv_I0)) q
  · obtain rfl : c = .le := by cases c <;> first | rfl | exact absurd b1 (by decide +kernel) | exact absurd b2 (by decide +kernel)
    exact b_ret e4 (e_bl (ev_op (ev_var rfl) (ev_var rfl) rv_I0)) q
abbrev s__law_after : Stmt := topS 58
abbrev N__law_after : List Str := ["_law_place", "_law_back", "_law_many"]
theorem sc__law_after : FnScope N__law_after ["_law_place", "_law_back", "_law_many"] (defScope s__law_after) := ⟨rfl, rfl, rfl, by decide +kernel, rfl, by decide +kernel, by decide +kernel⟩
def R_after : Rl := fun ds d => ∃ (p b n : Nat), ds = [.int (p : Nat), .int (b : Nat), .int (n : Nat)] ∧ d = .int (nx n b p : Nat)
theorem ok_after (D : Def K mg "_law_after" s__law_after ["_law_place", "_law_back", "_law_many"]) : FnAt P w K mg base 1 "_law_after" ["_law_place", "_law_back", "_law_many"] (spR K R_after) := by
  refine D.ok sc__law_after (fun ds d ⟨p, b, n, h, _⟩ => by rw [h] <;> rfl) fun f0 cdv A0 outer s H vs Q E ds d hr hv hR q => ?_
  obtain ⟨p, b, n, rfl, rfl⟩ := hR
  obtain ⟨v0, v1, v2, rfl, h0, h1, h2⟩ := hv.i3
  obtain rfl := h0.int_inv
  obtain rfl := h1.int_inv
  obtain rfl := h2.int_inv
  refine ⟨_, (pss_cons (ps_if (pt_cmpR op_lt (pe_op op_add (pv 0) pe_int) (pv 2) (nomark _)) (pss_one (ps_ret (pe_op op_add (pv 0) pe_int))) pss_nil)
      (pss_one (ps_ret (pv 1)))), ?_⟩
  try dsimp only [cxOf]
  refine b_when (Ex.refl H) (et_test (ev_op (ev_op (ev_var rfl) ev_c rv_I0) (ev_var rfl) rv_I0)) (fun hb H1 e1 => ?_) fun hb H1 e1 => ?_
  · have hb' := of_decide_eq_true hb
    have e : nx n b p = p + 1 := if_pos (by omega)
    rw [e] at q
    exact b_ret e1 (e_int (ev_op (ev_var rfl) ev_c rv_I0)) q
  · have hb' := of_decide_eq_false hb
    have e : nx n b p = b := if_neg (by omega)
    rw [e] at q
    exact b_ret e1 (e_int (ev_var rfl)) q
abbrev s__law_walk : Stmt := topS 59
abbrev N__law_walk : List Str := ["_law_place", "_law_back", "_law_first", "_law_second", "_law_end", "_law_step"]
theorem sc__law_walk : FnScope N__law_walk ["_law_place", "_law_back", "_law_first", "_law_second", "_law_end"] (defScope s__law_walk) := ⟨rfl, rfl, rfl, by decide +kernel, rfl, by decide +kernel, by decide +kernel⟩
def R_walk : Rl := fun ds d => ∃ (n b p : Nat) (F G : Nat → Bool) (e : Bool), ds = [.int (p : Nat), .int (b : Nat), .list (blD n F), .list (blD n G), .bool e] ∧ p < n ∧ b < n ∧ n ≤ 1000 ∧ d = .bool (dec (nx n b) F G e n p)
theorem ok_walk (Z_len : mg "len" = none) (Z_range : mg "range" = none) (G__law_after : FnAt P w K mg base 1 "_law_after" ["_law_place", "_law_back", "_law_many"] (spR K R_after)) (D : Def K mg "_law_walk" s__law_walk ["_law_place", "_law_back", "_law_first", "_law_second", "_law_end"]) :
    FnAt P w K mg base 2 "_law_walk" ["_law_place", "_law_back", "_law_first", "_law_second", "_law_end"] (spR K R_walk) := by
  refine D.ok sc__law_walk (fun ds d ⟨n, b, p, F, G, e, h, _⟩ => by rw [h] <;> rfl) fun f0 cdv A0 outer s H vs Q E ds d hr hv hR q => ?_
  obtain ⟨n, b, p, F, G, e, rfl, hp, hb, hn, rfl⟩ := hR
  obtain ⟨v0, v1, v2, v3, v4, rfl, h0, h1, h2, h3, h4⟩ := hv.i5
  obtain rfl := h0.int_inv
  obtain rfl := h1.int_inv
  obtain rfl := h4.bl_inv
  refine ⟨_, (pss_cons (ps_for PassesOwn.never rfl (pi_range1 (by rfl) Z_range (pa_cons (pe_callB call_lenS (by rfl) Z_len PySem.boot_len (pa_cons (pv 2) pa_nil)) pa_nil)) (pg_name (i := 5) sc__law_walk.nd rfl (by first | exact Or.inl rfl | exact Or.inr rfl)) (pss_cons (ps_if (pt_val (pe_ix ix_list (pv 3) (pv 0) (fun _ _ => rfl))) (pss_one (ps_ret pe_bl)) pss_nil)
      (pss_cons (ps_if (pt_not (pt_val (pe_ix ix_list (pv 2) (pv 0) (fun _ _ => rfl)))) (pss_one (ps_ret pe_bl)) pss_nil)
      (pss_one (ps_set (i := 0) sc__law_walk.nd rfl (by first | exact Or.inl rfl | exact Or.inr rfl) (pe_callX G__law_after hr (pa_cons (pv 0) (pa_cons (pv 1) (pa_cons (pe_callB call_lenS (by rfl) Z_len PySem.boot_len (pa_cons (pv 2) pa_nil)) pa_nil)))))))))
      (pss_one (ps_ret (pv 4)))), ?_⟩
  try dsimp only [cxOf]
  refine q_forR1 (n := (n : Int)) (Evl.ea_cons (ev_is (ev_lenD (.inl (e_var rfl h2))) (by rw [blD_len])) Evl.ea_nil) (by omega) (fun k σ' H' => (∃ (pl : Nat) (o5 : Option V), pl < n ∧ σ' = [some (.int (pl : Nat)), some (.int (b : Nat)), some v2, some v3, some (.bl e), o5] ∧ dec (nx n b) F G e n p = dec (nx n b) F G e (n - k) pl) ∧ Ex H H') (fun H5 e5 => ⟨⟨p, none, hp, rfl, rfl⟩, e5⟩) ?_ ?_
  · rintro k σ' H5 hk ⟨⟨pl, o5, hpl, rfl, hdec⟩, e5⟩
    have hk' : k < n := by omega
    have es : n - k = (n - (k + 1)) + 1 := by omega
    rw [es, dec_succ] at hdec
    show tSeq _ _ _ [some (.int (pl : Nat)), some (.int (b : Nat)), some v2, some v3, some (.bl e), some (.int (k : Int))] H5
    refine b_when (Ex.refl H5) (et_B (ev_bl (e_ixL (e_var rfl (h3.mono e5)) (ev_var rfl) (atI_bl hpl)))) (fun hG H6 e6 => ?_) fun hG H6 e6 => ?_
    · rw [if_pos hG] at hdec
      rw [hdec] at q
      exact b_ret e6 (e_bl ev_c) fun v H7 e7 => q v H7 (e5.trans e7)
    rw [if_neg (by rw [hG]; decide)] at hdec
    refine b_when e6 (et_not (et_B (ev_bl (e_ixL (e_var rfl (h2.mono e5)) (ev_var rfl) (atI_bl hpl))))) (fun hF H7 e7 => ?_) fun hF H7 e7 => ?_
    · have hF' : F pl = false := by cases h : F pl <;> rw [h] at hF <;> first | rfl | cases hF
      rw [hF', if_neg (by decide)] at hdec
      rw [hdec] at q
      exact b_ret e7 (e_bl ev_c) fun v H8 e8 => q v H8 (e5.trans e8)
    · have hF' : F pl = true := by cases h : F pl <;> rw [h] at hF <;> first | rfl | cases hF
      rw [if_pos hF'] at hdec
      refine b_asg1 (v := .int (nx n b pl : Nat)) e7 (ev_int (e_call (ds := [.int (pl : Nat), .int (b : Nat), .int (n : Nat)]) (K27.ea_cons (e_int (ev_var rfl)) (K27.ea_cons (e_int (ev_var rfl)) (K27.ea_cons (e_int (ev_is (ev_lenD (.inl (e_var rfl (h2.mono e5)))) (by rw [blD_len]))) K27.ea_nil))) ⟨pl, b, n, rfl, rfl⟩)) fun H8 e8 => ?_
      exact ⟨⟨nx n b pl, _, nx_lt hb, rfl, hdec⟩, e5.trans e8⟩
  · rintro σ' H5 ⟨⟨pl, o5, hpl, rfl, hdec⟩, e5⟩
    rw [Int.toNat_natCast, Nat.sub_self] at hdec
    rw [hdec] at q
    exact b_ret (Ex.refl H5) (e_bl (ev_var rfl)) fun v H7 e7 => q v H7 (e5.trans e7)
abbrev s__law_bits : Stmt := topS 63
abbrev N__law_bits : List Str := ["_law_actual", "_law_expected", "_law_k"]
theorem sc__law_bits : FnScope N__law_bits ["_law_actual", "_law_expected"] (defScope s__law_bits) := ⟨rfl, rfl, rfl, by decide +kernel, rfl, by decide +kernel, by decide +kernel⟩
def R_bits : Rl := fun ds d => ∃ (n : Nat) (F : Nat → Bool), ds = [.list (blD n F), .list (blD n F)] ∧ n ≤ 1000 ∧ d = .bool true
theorem ok_bits (Z_isinstance : mg "isinstance" = none) (Z_list : mg "list" = none) (Z_bool : mg "bool" = none) (Z_len : mg "len" = none) (Z_range : mg "range" = none) (D : Def K mg "_law_bits" s__law_bits ["_law_actual", "_law_expected"]) : FnAt P w K mg base 1 "_law_bits" ["_law_actual", "_law_expected"] (spR K R_bits) := by
  refine D.ok sc__law_bits (fun ds d ⟨n, F, h, _⟩ => by rw [h] <;> rfl) fun f0 cdv A0 outer s H vs Q E ds d hr hv hR q => ?_
  obtain ⟨n, F, rfl, hn, rfl⟩ := hR
  obtain ⟨v0, v1, rfl, h0, h1⟩ := hv.i2
  refine ⟨_, (pss_cons (ps_if (PW.pt (pw_or (pt_not (pt_val (pe_callB call_isi (by rfl) Z_isinstance bt_isinstance (pa_cons (pv 0) (pa_cons (pe_bltn (v := .ty "list") (by rfl) Z_list bt_list rfl) pa_nil))))) (pw_or1 (pt_cmpR op_ne (pe_callB call_lenS (by rfl) Z_len PySem.boot_len (pa_cons (pv 0) pa_nil)) (pe_callB call_lenS (by rfl) Z_len PySem.boot_len (pa_cons (pv 1) pa_nil)) (nomark _))))) (pss_one (ps_ret pe_bl)) pss_nil)
      (pss_cons (ps_for PassesOwn.never rfl (pi_range1 (by rfl) Z_range (pa_cons (pe_callB call_lenS (by rfl) Z_len PySem.boot_len (pa_cons (pv 1) pa_nil)) pa_nil)) (pg_name (i := 2) sc__law_bits.nd rfl (by first | exact Or.inl rfl | exact Or.inr rfl)) (pss_one (ps_if (PW.pt (pw_or (pt_not (pt_val (pe_callB call_isi (by rfl) Z_isinstance bt_isinstance (pa_cons (pe_ix ix_list (pv 0) (pv 2) (fun _ _ => rfl)) (pa_cons (pe_bltn (v := .ty "bool") (by rfl) Z_bool bt_bool rfl) pa_nil))))) (pw_or1 (pt_cmpR op_ne (pe_ix ix_list (pv 0) (pv 2) (fun _ _ => rfl)) (pe_ix ix_list (pv 1) (pv 2) (fun _ _ => rfl)) (nomark _))))) (pss_one (ps_ret pe_bl)) pss_nil)))
      (pss_one (ps_ret pe_bl)))), ?_⟩
  try dsimp only [cxOf]
  refine b_skip (b := false) (Ex.refl H) (et_or (a := false) (b := false) (et_not (a := true) (et_B (ev_isiL (e_var rfl h0) (by decide +kernel)))) fun _ => et_test (ev_is (ev_op (ev_lenD (.inl (e_var rfl h0))) (ev_lenD (.inl (e_var rfl h1))) (rv_ne rfl)) ?_)) rfl fun H1 e1 => ?_
  · rw [dec_int2, decide_eq_true rfl] <;> rfl
  refine q_forR1 (n := (n : Int)) (Evl.ea_cons (ev_is (ev_lenD (.inl (e_var rfl (h1.mono e1)))) (by rw [blD_len])) Evl.ea_nil) (by omega) (fun k σ' H' => (∃ o2, σ' = [some v0, some v1, o2]) ∧ Ex H H') (fun H5 e5 => ⟨⟨none, rfl⟩, e1.trans e5⟩) ?_ ?_
  · rintro k σ' H5 hk ⟨⟨o2, rfl⟩, e5⟩
    have hk' : k < n := by omega
    show tIfS _ _ _ _ [some v0, some v1, some (.int (k : Int))] H5
    refine b_no1 (b := false) (Ex.refl H5) (et_or (a := false) (b := false) (et_not (a := true) (et_B (ev_isiB (e_ixL (e_var rfl (h0.mono e5)) (ev_var rfl) (atI_bl hk')) (by decide +kernel)))) fun _ => et_test (ev_is (ev_op (ev_bl (e_ixL (e_var rfl (h0.mono e5)) (ev_var rfl) (atI_bl hk'))) (ev_bl (e_ixL (e_var rfl (h1.mono e5)) (ev_var rfl) (atI_bl hk'))) (rv_ne rfl)) ?_)) rfl fun H6 e6 => ⟨⟨_, rfl⟩, e5.trans e6⟩
    rw [decide_eq_true rfl] <;> rfl
  · rintro σ' H5 ⟨⟨o2, rfl⟩, e5⟩
    exact b_ret (Ex.refl H5) (e_bl ev_c) fun v H7 e7 => q v H7 (e5.trans e7)
end
end K27

/-! K27: the law's truths along a run. -/
namespace K27
open PySem PySem.Spec PyProof.Rows L2 Evl
local macro_rules | `(tactic| walk_at "ev") => `(tactic| first
  | exact ev_c
  | exact ev_var rfl
  | (refine' et_test ?h; (case h => walk_at "ev"))
  | (refine' et_B ?h; (case h => walk_at "ev"))
  | (refine' et_not ?h; (case h => walk_at "ev"))
  | (refine' et_and ?a (fun _ => ?b); (case a => walk_at "ev"); (case b => walk_at "ev"))
  | (refine' et_or ?a (fun _ => ?b); (case a => walk_at "ev"); (case b => walk_at "ev"))
  | (refine' ev_op ?a ?b (rv_eq ?c); (case a => walk_at "ev"); (case b => walk_at "ev"); (case c => rfl))
  | (refine' ev_op ?a ?b rv_I0; (case a => walk_at "ev"); (case b => walk_at "ev"))
  | (refine' ev_inU ?a ?b ?c ?d; (case a => walk_at "ev"); (case b => (refine' eu_tup ?x ?y; (case x => walk_at "ev"); (case y => decide))); (case c => rfl); (case d => rfl))
  | (refine' ev_str (e_ixT ?a ?b ?c); (case a => walk_at "ed"); (case b => walk_at "ev"); (case c => first | exact at0 | exact at1 | exact at2))
  | (refine' ev_int (e_ixT ?a ?b ?c); (case a => walk_at "ed"); (case b => walk_at "ev"); (case c => first | exact at0 | exact at1 | exact at2))
  | exact Evl.ea_nil
  | (refine' Evl.ea_cons ?a ?b; (case a => walk_at "ev"); (case b => walk_at "ev")))
local macro_rules | `(tactic| walk_at "ed") => `(tactic| first
  | exact e_var rfl (by assumption)
  | exact e_var rfl (by constructor)
  | exact K27.ea_nil
  | (refine' K27.ea_cons ?a ?b; (case a => walk_at "ed"); (case b => walk_at "ed"))
  | (refine' e_tup ?a ?b; (case a => walk_at "ed"); (case b => (simp only [List.length_cons, List.length_nil, List.length_append]; omega)))
  | (refine' e_ixT ?a ?b ?c; (case a => walk_at "ed"); (case b => walk_at "ev"); (case c => first | exact at0 | exact at1 | exact at2))
  | (refine' e_ev ?a ?b; (case a => walk_at "ev"); (case b => first | exact .str _ | exact .int _ | exact .bl _ | assumption)))
def isTm : Bi → Bool
  | .untl => true
  | .unl => true
  | .str => true
  | .rel => true
  | _ => false
theorem giv_blN (n : Nat) (F : Nat → Bool) : giv ((n : Int)).toNat (fun _ => true) (fun i => .bool (F i)) = blD n F := by
  rw [Int.toNat_natCast, giv_bl]
section
variable {P : Program} {w : World} {K : PySem.W.Frag} {mg : Str → Option Value} {base : Heap}
abbrev s__law_temporal : Stmt := topS 60
abbrev N__law_temporal : List Str := ["_law_word", "_law_first", "_law_second", "_law_back", "_law_many", "_law_both", "_law_no_first", "_law_no_second", "_law_k", "_law_bit"]
theorem sc__law_temporal : FnScope N__law_temporal ["_law_word", "_law_first", "_law_second", "_law_back"] (defScope s__law_temporal) := ⟨rfl, rfl, rfl, by decide +kernel, rfl, by decide +kernel, by decide +kernel⟩
def R_temporal : List PyData → List PyData → Prop := fun ds es => ∃ (o : Bi) (n b : Nat) (F G : Nat → Bool), ds = [.str o.w, .list (blD n F), .list (blD n G), .int (b : Nat)] ∧ isTm o = true ∧ b < n ∧ n ≤ 1000 ∧ es = blD n (tmpF o n b F G)
theorem ok_temporal (Z_len : mg "len" = none) (Z_range : mg "range" = none) (G__law_walk : FnAt P w K mg base 2 "_law_walk" ["_law_place", "_law_back", "_law_first", "_law_second", "_law_end"] (spR K R_walk)) (D : Def K mg "_law_temporal" s__law_temporal ["_law_word", "_law_first", "_law_second", "_law_back"]) :
    FnAt P w K mg base 3 "_law_temporal" ["_law_word", "_law_first", "_law_second", "_law_back"] (spN K R_temporal) := by
  refine D.okN sc__law_temporal (fun ds d ⟨o, n, b, F, G, h, _⟩ => by rw [h] <;> rfl) fun f0 cdv A0 outer s H vs Q E ds es hr hv hR q => ?_
  obtain ⟨o, n, b, F, G, rfl, ho, hb, hn, rfl⟩ := hR
  obtain ⟨v0, v1, v2, v3, rfl, h0, h1, h2, h3⟩ := hv.i4
  obtain rfl := h0.str_inv
  obtain rfl := h3.int_inv
  refine ⟨_, (pss_cons (ps_set (i := 4) sc__law_temporal.nd rfl (by first | exact Or.inl rfl | exact Or.inr rfl) (pe_callB call_lenS (by rfl) Z_len PySem.boot_len (pa_cons (pv 1) pa_nil)))
      (pss_cons (ps_if (pt_cmpR op_eq (pv 0) pe_str (nomark _)) (pss_one (ps_ret (pe_lc (own := [("_law_k", 8)]) (g := gName 8) (tt := tYes) (te := (tCall _ [] E0 (tCons (tVar 8) (tCons (tVar 3) (tCons (tVar 1) (tCons (tVar 2) (tCons (tC _) tNil))))))) (by rfl) sc__law_temporal.nd (pi_range1 (by rfl) Z_range (pa_cons (pv 4) pa_nil)) (blkOk_by (N := N__law_temporal) (own := [("_law_k", 8)]) (sc := defScope s__law_temporal) (by decide +kernel)) (fun _ _ _ _ _ => (pg_name (i := 8) sc__law_temporal.nd rfl (by first | exact Or.inl rfl | exact Or.inr rfl))) (fun _ _ _ _ _ => pts_nil) (fun _ _ _ _ _ => (pe_callX G__law_walk hr (pa_cons (pv 8) (pa_cons (pv 3) (pa_cons (pv 1) (pa_cons (pv 2) (pa_cons pe_bl pa_nil)))))))))) pss_nil)
      (pss_cons (ps_if (pt_cmpR op_eq (pv 0) pe_str (nomark _)) (pss_one (ps_ret (pe_lc (own := [("_law_k", 8)]) (g := gName 8) (tt := tYes) (te := (tCall _ [] E0 (tCons (tVar 8) (tCons (tVar 3) (tCons (tVar 1) (tCons (tVar 2) (tCons (tC _) tNil))))))) (by rfl) sc__law_temporal.nd (pi_range1 (by rfl) Z_range (pa_cons (pv 4) pa_nil)) (blkOk_by (N := N__law_temporal) (own := [("_law_k", 8)]) (sc := defScope s__law_temporal) (by decide +kernel)) (fun _ _ _ _ _ => (pg_name (i := 8) sc__law_temporal.nd rfl (by first | exact Or.inl rfl | exact Or.inr rfl))) (fun _ _ _ _ _ => pts_nil) (fun _ _ _ _ _ => (pe_callX G__law_walk hr (pa_cons (pv 8) (pa_cons (pv 3) (pa_cons (pv 1) (pa_cons (pv 2) (pa_cons pe_bl pa_nil)))))))))) pss_nil)
      (pss_cons (ps_if (pt_cmpR op_eq (pv 0) pe_str (nomark _)) (pss_cons (ps_set (i := 5) sc__law_temporal.nd rfl (by first | exact Or.inl rfl | exact Or.inr rfl) (pe_lc (own := [("_law_k", 8)]) (g := gName 8) (tt := tYes) (te := (tAndV (tOp (rIxL K) (tVar 1) (tVar 8)) (tOp (rIxL K) (tVar 2) (tVar 8)))) (by rfl) sc__law_temporal.nd (pi_range1 (by rfl) Z_range (pa_cons (pv 4) pa_nil)) (blkOk_by (N := N__law_temporal) (own := [("_law_k", 8)]) (sc := defScope s__law_temporal) (by decide +kernel)) (fun _ _ _ _ _ => (pg_name (i := 8) sc__law_temporal.nd rfl (by first | exact Or.inl rfl | exact Or.inr rfl))) (fun _ _ _ _ _ => pts_nil) (fun _ _ _ _ _ => (pe_and (pe_ix ix_list (pv 1) (pv 8) (fun _ _ => rfl)) (pe_one (pe_ix ix_list (pv 2) (pv 8) (fun _ _ => rfl)))))))
      (pss_one (ps_ret (pe_lc (own := [("_law_k", 8)]) (g := gName 8) (tt := tYes) (te := (tCall _ [] E0 (tCons (tVar 8) (tCons (tVar 3) (tCons (tVar 2) (tCons (tVar 5) (tCons (tC _) tNil))))))) (by rfl) sc__law_temporal.nd (pi_range1 (by rfl) Z_range (pa_cons (pv 4) pa_nil)) (blkOk_by (N := N__law_temporal) (own := [("_law_k", 8)]) (sc := defScope s__law_temporal) (by decide +kernel)) (fun _ _ _ _ _ => (pg_name (i := 8) sc__law_temporal.nd rfl (by first | exact Or.inl rfl | exact Or.inr rfl))) (fun _ _ _ _ _ => pts_nil) (fun _ _ _ _ _ => (pe_callX G__law_walk hr (pa_cons (pv 8) (pa_cons (pv 3) (pa_cons (pv 2) (pa_cons (pv 5) (pa_cons pe_bl pa_nil))))))))))) pss_nil)
      (pss_cons (ps_set (i := 6) sc__law_temporal.nd rfl (by first | exact Or.inl rfl | exact Or.inr rfl) (pe_lc (own := [("_law_bit", 9)]) (g := gName 9) (tt := tYes) (te := (tNotV (tVar 9))) (by rfl) sc__law_temporal.nd (pi_list (pv 1)) (blkOk_by (N := N__law_temporal) (own := [("_law_bit", 9)]) (sc := defScope s__law_temporal) (by decide +kernel)) (fun _ _ _ _ _ => (pg_name (i := 9) sc__law_temporal.nd rfl (by first | exact Or.inl rfl | exact Or.inr rfl))) (fun _ _ _ _ _ => pts_nil) (fun _ _ _ _ _ => (pe_not (pv 9)))))
      (pss_cons (ps_set (i := 7) sc__law_temporal.nd rfl (by first | exact Or.inl rfl | exact Or.inr rfl) (pe_lc (own := [("_law_bit", 9)]) (g := gName 9) (tt := tYes) (te := (tNotV (tVar 9))) (by rfl) sc__law_temporal.nd (pi_list (pv 2)) (blkOk_by (N := N__law_temporal) (own := [("_law_bit", 9)]) (sc := defScope s__law_temporal) (by decide +kernel)) (fun _ _ _ _ _ => (pg_name (i := 9) sc__law_temporal.nd rfl (by first | exact Or.inl rfl | exact Or.inr rfl))) (fun _ _ _ _ _ => pts_nil) (fun _ _ _ _ _ => (pe_not (pv 9)))))
      (pss_one (ps_ret (pe_lc (own := [("_law_k", 8)]) (g := gName 8) (tt := tYes) (te := (tNotV (tCall _ [] E0 (tCons (tVar 8) (tCons (tVar 3) (tCons (tVar 6) (tCons (tVar 7) (tCons (tC _) tNil)))))))) (by rfl) sc__law_temporal.nd (pi_range1 (by rfl) Z_range (pa_cons (pv 4) pa_nil)) (blkOk_by (N := N__law_temporal) (own := [("_law_k", 8)]) (sc := defScope s__law_temporal) (by decide +kernel)) (fun _ _ _ _ _ => (pg_name (i := 8) sc__law_temporal.nd rfl (by first | exact Or.inl rfl | exact Or.inr rfl))) (fun _ _ _ _ _ => pts_nil) (fun _ _ _ _ _ => (pe_not (pe_callX G__law_walk hr (pa_cons (pv 8) (pa_cons (pv 3) (pa_cons (pv 6) (pa_cons (pv 7) (pa_cons pe_bl pa_nil))))))))))))))))), ?_⟩
  try dsimp only [cxOf]
  refine b_asg (v := .int (n : Int)) (Ex.refl H) (ev_is (ev_lenD (.inl (e_var rfl h1))) (by rw [blD_len])) fun H1 e1 => ?_
  cases o with
  | and => cases ho
  | or => cases ho
  | imp => cases ho
  | same => cases ho
  | untl =>
    refine b_yes e1 (by walk_at "ev") (by decide +kernel) fun H2 e2 => ?_
    refine b_retL e2 ((l_lcR (n := (n : Int)) (fun _ => true) (fun p => .bool (tmpF .untl n b F G p)) (Evl.ea_cons (ev_var rfl) Evl.ea_nil) (by omega) (fun _ => rfl) (fun _ => rfl) (fun i H3 e3 hi => evt_yes) (fun i H3 e3 hi _ => ?_)).is (giv_blN n _)) fun p xs H3 hp e3 => q p xs H3 (fresh_back e2 hp) e3
    exact e_call (ds := [.int (i : Nat), .int (b : Nat), .list (blD n F), .list (blD n G), .bool false]) (K27.ea_cons (e_int (ev_var rfl)) (K27.ea_cons (e_int (ev_var rfl)) (K27.ea_cons (e_var rfl (h1.mono e3)) (K27.ea_cons (e_var rfl (h2.mono e3)) (K27.ea_cons (e_bl ev_c) K27.ea_nil))))) ⟨n, b, i, F, G, false, rfl, by omega, hb, hn, rfl⟩
  | unl =>
    refine b_skip e1 (by walk_at "ev") (by decide +kernel) fun H2 e2 => ?_
    refine b_yes e2 (by walk_at "ev") (by decide +kernel) fun H2' e2' => ?_
    refine b_retL e2' ((l_lcR (n := (n : Int)) (fun _ => true) (fun p => .bool (tmpF .unl n b F G p)) (Evl.ea_cons (ev_var rfl) Evl.ea_nil) (by omega) (fun _ => rfl) (fun _ => rfl) (fun i H3 e3 hi => evt_yes) (fun i H3 e3 hi _ => ?_)).is (giv_blN n _)) fun p xs H3 hp e3 => q p xs H3 (fresh_back e2' hp) e3
    exact e_call (ds := [.int (i : Nat), .int (b : Nat), .list (blD n F), .list (blD n G), .bool true]) (K27.ea_cons (e_int (ev_var rfl)) (K27.ea_cons (e_int (ev_var rfl)) (K27.ea_cons (e_var rfl (h1.mono e3)) (K27.ea_cons (e_var rfl (h2.mono e3)) (K27.ea_cons (e_bl ev_c) K27.ea_nil))))) ⟨n, b, i, F, G, true, rfl, by omega, hb, hn, rfl⟩
  | str =>
    refine b_skip e1 (by walk_at "ev") (by decide +kernel) fun H2 e2 => ?_
    refine b_skip e2 (by walk_at "ev") (by decide +kernel) fun H3 e3 => ?_
    refine b_yes e3 (by walk_at "ev") (by decide +kernel) fun H4 e4 => ?_
    refine b_asgD (K := K) e4 (EL.e ((l_lcR (n := (n : Int)) (fun _ => true) (fun p => .bool (F p && G p)) (Evl.ea_cons (ev_var rfl) Evl.ea_nil) (by omega) (fun _ => rfl) (fun _ => rfl) (fun i H5 e5 hi => evt_yes) (fun i H5 e5 hi _ => e_bl (ev_andV (ev_bl (e_ixL (e_var rfl (h1.mono e5)) (ev_var rfl) (atI_bl (by omega)))) fun _ => ev_bl (e_ixL (e_var rfl (h2.mono e5)) (ev_var rfl) (atI_bl (by omega)))))).is (giv_blN n _))) fun v5 H5 e5 r5 => ?_
    refine b_retL (Ex.refl H5) ((l_lcR (n := (n : Int)) (fun _ => true) (fun p => .bool (tmpF .str n b F G p)) (Evl.ea_cons (ev_var rfl) Evl.ea_nil) (by omega) (fun _ => rfl) (fun _ => rfl) (fun i H3 e3 hi => evt_yes) (fun i H6 e6 hi _ => ?_)).is (giv_blN n _)) fun p xs H6 hp e6 => q p xs H6 (fresh_back e5 hp) (e5.trans e6)
    exact e_call (ds := [.int (i : Nat), .int (b : Nat), .list (blD n G), .list (blD n fun p => F p && G p), .bool false]) (K27.ea_cons (e_int (ev_var rfl)) (K27.ea_cons (e_int (ev_var rfl)) (K27.ea_cons (e_var rfl (h2.mono (e5.trans e6))) (K27.ea_cons (e_var rfl (r5.mono e6)) (K27.ea_cons (e_bl ev_c) K27.ea_nil))))) ⟨n, b, i, G, _, false, rfl, by omega, hb, hn, rfl⟩
  | rel =>
    refine b_skip e1 (by walk_at "ev") (by decide +kernel) fun H2 e2 => ?_
    refine b_skip e2 (by walk_at "ev") (by decide +kernel) fun H3 e3 => ?_
    refine b_skip e3 (by walk_at "ev") (by decide +kernel) fun H4 e4 => ?_
    have neg : ∀ (X : Nat → Bool) (i : Nat) (v : V) (d : PyData) (H5 : Hp) (σ : L2.St), (blD n X)[i]? = some d → Da K H5 v d → σ[9]? = some (some v) → K27.E K (tNotV (tVar 9)) σ H5 (.bool (!X i)) := fun X i v d H5 σ hd r s9 => by
      obtain ⟨_, rfl⟩ := blD_get hd
      exact e_bl (ev_notV (ev_bl (e_var s9 r)))
    refine b_asgD (K := K) e4 (EL.e ((l_lcL (fun _ => true) (fun p => .bool (!F p)) (e_var rfl h1) (by rw [blD_len]; omega) (fun _ => rfl) (fun _ => rfl) (fun i v d H5 e5 hd r => evt_yes) (fun i v d H5 e5 hd r _ => neg F i v d H5 _ hd r rfl)).is (es := blD n fun p => !F p) (by rw [blD_len, giv_bl]))) fun v5 H5 e5 r5 => ?_
    refine b_asgD (K := K) (Ex.refl H5) (EL.e ((l_lcL (fun _ => true) (fun p => .bool (!G p)) (e_var rfl (h2.mono e5)) (by rw [blD_len]; omega) (fun _ => rfl) (fun _ => rfl) (fun i v d H5 e5 hd r => evt_yes) (fun i v d H5 e5 hd r _ => neg G i v d H5 _ hd r rfl)).is (es := blD n fun p => !G p) (by rw [blD_len, giv_bl]))) fun v6 H6 e6 r6 => ?_
    have r56 := r5.mono e6
    have e06 := e5.trans e6
    refine b_retL (Ex.refl H6) ((l_lcR (n := (n : Int)) (fun _ => true) (fun p => .bool (tmpF .rel n b F G p)) (Evl.ea_cons (ev_var rfl) Evl.ea_nil) (by omega) (fun _ => rfl) (fun _ => rfl) (fun i H3 e3 hi => evt_yes) (fun i H7 e7 hi _ => ?_)).is (giv_blN n _)) fun p xs H7 hp e7 => q p xs H7 (fresh_back e06 hp) (e06.trans e7)
    exact e_bl (ev_notV (ev_bl (e_call (ds := [.int (i : Nat), .int (b : Nat), .list (blD n fun p => !F p), .list (blD n fun p => !G p), .bool false]) (K27.ea_cons (e_int (ev_var rfl)) (K27.ea_cons (e_int (ev_var rfl)) (K27.ea_cons (e_var rfl (r56.mono e7)) (K27.ea_cons (e_var rfl (r6.mono e7)) (K27.ea_cons (e_bl ev_c) K27.ea_nil))))) ⟨n, b, i, _, _, false, rfl, by omega, hb, hn, rfl⟩)))
abbrev s__law_along : Stmt := topS 61
abbrev N__law_along : List Str := ["_law_tree", "_law_names_here", "_law_run", "_law_back", "_law_word", "_law_many", "_law_first", "_law_second", "_law_state", "_law_bit", "_law_k"]
theorem sc__law_along : FnScope N__law_along ["_law_tree", "_law_names_here", "_law_run", "_law_back"] (defScope s__law_along) := ⟨rfl, rfl, rfl, by decide +kernel, rfl, by decide +kernel, by decide +kernel⟩
theorem blkOk_nf {N : List Str} {sc scope : Scope} {own : List (Str × Nat)} (h : blkC N scope scope own = true) (hf : (scope.names.all fun y => match y.2 with
    | .free => false
    | _ => true) = true) : BlkOk N sc scope own := by
  have b := blkOk_by h
  refine ⟨b.kind, b.uniq, b.ix, fun y hy e => ?_, b.own⟩
  have z := List.all_eq_true.mp hf y hy
  rw [e] at z
  cases z
def R_along (N : List Str) (n : Nat) : List PyData → List PyData → Prop := fun ds es => ∃ (f : Fm) (R : List (List Int)) (b : Nat), ds = [f.d, .list (N.map PyData.str), .list (R.map stD), .int (b : Nat)] ∧ f.fine N ∧ f.dp ≤ n ∧ (∀ is ∈ R, StOk N is) ∧ b < R.length ∧ R.length ≤ 1000 ∧ es = blD R.length (tr R.length b (fun p => rOf N (R.getD p [])) f)
theorem ok_along {N : List Str} (Z_len : mg "len" = none) (Z_range : mg "range" = none) (G__law_holds : FnAt P w K mg base 5 "_law_holds" ["_law_comparison", "_law_names_here", "_law_state"] (spR K (R_holds N))) (G__law_after : FnAt P w K mg base 1 "_law_after" ["_law_place", "_law_back", "_law_many"] (spR K R_after))
    (G__law_walk : FnAt P w K mg base 2 "_law_walk" ["_law_place", "_law_back", "_law_first", "_law_second", "_law_end"] (spR K R_walk)) (G__law_temporal : FnAt P w K mg base 3 "_law_temporal" ["_law_word", "_law_first", "_law_second", "_law_back"] (spN K R_temporal)) (D : Def K mg "_law_along" s__law_along ["_law_tree", "_law_names_here", "_law_run", "_law_back"]) :
    ∀ n : Nat, FnAt P w K mg base (n + 6) "_law_along" ["_law_tree", "_law_names_here", "_law_run", "_law_back"] (spN K (R_along N n))
  | 0 => FnAt.none D fun vs H Q E h => by
    obtain ⟨ds, r, _, ⟨f, _, _, _, _, h, _⟩, _⟩ := h
    have := dp_pos f
    omega
  | n + 1 => by
    have G__law_along : FnAt P w K mg base (n + 6) "_law_along" ["_law_tree", "_law_names_here", "_law_run", "_law_back"] (spN K (R_along N n)) := ok_along Z_len Z_range G__law_holds G__law_after G__law_walk G__law_temporal D n
    refine D.okN sc__law_along (fun ds d ⟨f, R, b, h, _⟩ => by rw [h] <;> rfl) fun f0 cdv A0 outer s H vs Q E ds es hr hv hR q => ?_
    obtain ⟨f, R, b, rfl, hf, hd, hst, hb, hn, rfl⟩ := hR
    obtain ⟨v0, v1, v2, v3, rfl, h0, h1, h2, h3⟩ := hv.i4
    obtain rfl := h3.int_inv
    refine ⟨_, (pss_cons (ps_set (i := 4) sc__law_along.nd rfl (by first | exact Or.inl rfl | exact Or.inr rfl) (pe_ix ix_tup (pv 0) pe_int (fun _ _ => rfl)))
      (pss_cons (ps_set (i := 5) sc__law_along.nd rfl (by first | exact Or.inl rfl | exact Or.inr rfl) (pe_callB call_lenS (by rfl) Z_len PySem.boot_len (pa_cons (pv 2) pa_nil)))
      (pss_cons (ps_if (PW.pt (pw_or (pt_cmpR op_eq (pv 4) pe_str (nomark _)) (pw_or1 (pt_cmpR op_eq (pv 4) pe_str (nomark _))))) (pss_one (ps_ret (pe_lc (own := [("_law_state", 8)]) (g := gName 8) (tt := tYes) (te := (tOp _ (tVar 4) (tC _))) (by rfl) sc__law_along.nd (pi_list (pv 2)) (blkOk_by (N := N__law_along) (own := [("_law_state", 8)]) (sc := defScope s__law_along) (by decide +kernel)) (fun _ _ _ _ _ => (pg_name (i := 8) sc__law_along.nd rfl (by first | exact Or.inl rfl | exact Or.inr rfl))) (fun _ _ _ _ _ => pts_nil) (fun _ _ _ _ _ => (pe_cmpR op_eq (pv 4) pe_str (nomark _)))))) pss_nil)
      (pss_cons (ps_if (pt_cmpR op_in_seq (pv 4) (pe_tup (pa_cons pe_str (pa_cons pe_str (pa_cons pe_str pa_nil)))) (by rfl)) (pss_one (ps_ret (pe_lc (own := [("_law_state", 8)]) (g := gName 8) (tt := tYes) (te := (tCall _ [] E0 (tCons (tVar 0) (tCons (tVar 1) (tCons (tVar 8) tNil))))) (by rfl) sc__law_along.nd (pi_list (pv 2)) (blkOk_by (N := N__law_along) (own := [("_law_state", 8)]) (sc := defScope s__law_along) (by decide +kernel)) (fun _ _ _ _ _ => (pg_name (i := 8) sc__law_along.nd rfl (by first | exact Or.inl rfl | exact Or.inr rfl))) (fun _ _ _ _ _ => pts_nil) (fun _ _ _ _ _ => (pe_callX G__law_holds hr (pa_cons (pv 0) (pa_cons (pv 1) (pa_cons (pv 8) pa_nil)))))))) pss_nil)
      (pss_cons (ps_set (i := 6) sc__law_along.nd rfl (by first | exact Or.inl rfl | exact Or.inr rfl) (pe_callX G__law_along hr (pa_cons (pe_ix ix_tup (pv 0) pe_int (fun _ _ => rfl)) (pa_cons (pv 1) (pa_cons (pv 2) (pa_cons (pv 3) pa_nil))))))
      (pss_cons (ps_if (pt_cmpR op_eq (pv 4) pe_str (nomark _)) (pss_one (ps_ret (pe_lc (own := [("_law_bit", 9)]) (g := gName 9) (tt := tYes) (te := (tNotV (tVar 9))) (by rfl) sc__law_along.nd (pi_list (pv 6)) (blkOk_by (N := N__law_along) (own := [("_law_bit", 9)]) (sc := defScope s__law_along) (by decide +kernel)) (fun _ _ _ _ _ => (pg_name (i := 9) sc__law_along.nd rfl (by first | exact Or.inl rfl | exact Or.inr rfl))) (fun _ _ _ _ _ => pts_nil) (fun _ _ _ _ _ => (pe_not (pv 9)))))) pss_nil)
      (pss_cons (ps_if (pt_cmpR op_eq (pv 4) pe_str (nomark _)) (pss_one (ps_ret (pe_lc (own := [("_law_k", 10)]) (g := gName 10) (tt := tYes) (te := (tOp (rIxL K) (tVar 6) (tCall _ [] E0 (tCons (tVar 10) (tCons (tVar 3) (tCons (tVar 5) tNil)))))) (by rfl) sc__law_along.nd (pi_range1 (by rfl) Z_range (pa_cons (pv 5) pa_nil)) (blkOk_by (N := N__law_along) (own := [("_law_k", 10)]) (sc := defScope s__law_along) (by decide +kernel)) (fun _ _ _ _ _ => (pg_name (i := 10) sc__law_along.nd rfl (by first | exact Or.inl rfl | exact Or.inr rfl))) (fun _ _ _ _ _ => pts_nil) (fun _ _ _ _ _ => (pe_ix ix_list (pv 6) (pe_callX G__law_after hr (pa_cons (pv 10) (pa_cons (pv 3) (pa_cons (pv 5) pa_nil)))) (fun _ _ => rfl)))))) pss_nil)
      (pss_cons (ps_if (pt_cmpR op_eq (pv 4) pe_str (nomark _)) (pss_one (ps_ret (pe_lc (own := [("_law_k", 10)]) (g := gName 10) (tt := tYes) (te := (tCall _ [] E0 (tCons (tVar 10) (tCons (tVar 3) (tCons (tLc (iList K (tVar 6)) (gName 9) tYes (tC _) [9]) (tCons (tVar 6) (tCons (tC _) tNil))))))) (by rfl) sc__law_along.nd (pi_range1 (by rfl) Z_range (pa_cons (pv 5) pa_nil)) (blkOk_by (N := N__law_along) (own := [("_law_k", 10)]) (sc := defScope s__law_along) (by decide +kernel)) (fun _ _ _ _ _ => (pg_name (i := 10) sc__law_along.nd rfl (by first | exact Or.inl rfl | exact Or.inr rfl))) (fun _ _ _ _ _ => pts_nil) (fun _ _ _ _ _ => (pe_callX G__law_walk hr (pa_cons (pv 10) (pa_cons (pv 3) (pa_cons (pe_lc (own := [("_law_bit", 9)]) (g := gName 9) (tt := tYes) (te := (tC _)) (by rfl) sc__law_along.nd (pi_list (pv 6)) (blkOk_nf (N := N__law_along) (own := [("_law_bit", 9)]) (by decide +kernel) (by decide +kernel)) (fun _ _ _ _ _ => (pg_name (i := 9) sc__law_along.nd rfl (by first | exact Or.inl rfl | exact Or.inr rfl))) (fun _ _ _ _ _ => pts_nil) (fun _ _ _ _ _ => pe_bl)) (pa_cons (pv 6) (pa_cons pe_bl pa_nil)))))))))) pss_nil)
      (pss_cons (ps_if (pt_cmpR op_eq (pv 4) pe_str (nomark _)) (pss_one (ps_ret (pe_lc (own := [("_law_k", 10)]) (g := gName 10) (tt := tYes) (te := (tCall _ [] E0 (tCons (tVar 10) (tCons (tVar 3) (tCons (tVar 6) (tCons (tLc (iList K (tVar 6)) (gName 9) tYes (tC _) [9]) (tCons (tC _) tNil))))))) (by rfl) sc__law_along.nd (pi_range1 (by rfl) Z_range (pa_cons (pv 5) pa_nil)) (blkOk_by (N := N__law_along) (own := [("_law_k", 10)]) (sc := defScope s__law_along) (by decide +kernel)) (fun _ _ _ _ _ => (pg_name (i := 10) sc__law_along.nd rfl (by first | exact Or.inl rfl | exact Or.inr rfl))) (fun _ _ _ _ _ => pts_nil) (fun _ _ _ _ _ => (pe_callX G__law_walk hr (pa_cons (pv 10) (pa_cons (pv 3) (pa_cons (pv 6) (pa_cons (pe_lc (own := [("_law_bit", 9)]) (g := gName 9) (tt := tYes) (te := (tC _)) (by rfl) sc__law_along.nd (pi_list (pv 6)) (blkOk_nf (N := N__law_along) (own := [("_law_bit", 9)]) (by decide +kernel) (by decide +kernel)) (fun _ _ _ _ _ => (pg_name (i := 9) sc__law_along.nd rfl (by first | exact Or.inl rfl | exact Or.inr rfl))) (fun _ _ _ _ _ => pts_nil) (fun _ _ _ _ _ => pe_bl)) (pa_cons pe_bl pa_nil)))))))))) pss_nil)
      (pss_cons (ps_set (i := 7) sc__law_along.nd rfl (by first | exact Or.inl rfl | exact Or.inr rfl) (pe_callX G__law_along hr (pa_cons (pe_ix ix_tup (pv 0) pe_int (fun _ _ => rfl)) (pa_cons (pv 1) (pa_cons (pv 2) (pa_cons (pv 3) pa_nil))))))
      (pss_cons (ps_if (pt_cmpR op_eq (pv 4) pe_str (nomark _)) (pss_one (ps_ret (pe_lc (own := [("_law_k", 10)]) (g := gName 10) (tt := tYes) (te := (tAndV (tOp (rIxL K) (tVar 6) (tVar 10)) (tOp (rIxL K) (tVar 7) (tVar 10)))) (by rfl) sc__law_along.nd (pi_range1 (by rfl) Z_range (pa_cons (pv 5) pa_nil)) (blkOk_by (N := N__law_along) (own := [("_law_k", 10)]) (sc := defScope s__law_along) (by decide +kernel)) (fun _ _ _ _ _ => (pg_name (i := 10) sc__law_along.nd rfl (by first | exact Or.inl rfl | exact Or.inr rfl))) (fun _ _ _ _ _ => pts_nil) (fun _ _ _ _ _ => (pe_and (pe_ix ix_list (pv 6) (pv 10) (fun _ _ => rfl)) (pe_one (pe_ix ix_list (pv 7) (pv 10) (fun _ _ => rfl)))))))) pss_nil)
      (pss_cons (ps_if (pt_cmpR op_eq (pv 4) pe_str (nomark _)) (pss_one (ps_ret (pe_lc (own := [("_law_k", 10)]) (g := gName 10) (tt := tYes) (te := (tOrV (tOp (rIxL K) (tVar 6) (tVar 10)) (tOp (rIxL K) (tVar 7) (tVar 10)))) (by rfl) sc__law_along.nd (pi_range1 (by rfl) Z_range (pa_cons (pv 5) pa_nil)) (blkOk_by (N := N__law_along) (own := [("_law_k", 10)]) (sc := defScope s__law_along) (by decide +kernel)) (fun _ _ _ _ _ => (pg_name (i := 10) sc__law_along.nd rfl (by first | exact Or.inl rfl | exact Or.inr rfl))) (fun _ _ _ _ _ => pts_nil) (fun _ _ _ _ _ => (pe_or (pe_ix ix_list (pv 6) (pv 10) (fun _ _ => rfl)) (pe_one (pe_ix ix_list (pv 7) (pv 10) (fun _ _ => rfl)))))))) pss_nil)
      (pss_cons (ps_if (pt_cmpR op_eq (pv 4) pe_str (nomark _)) (pss_one (ps_ret (pe_lc (own := [("_law_k", 10)]) (g := gName 10) (tt := tYes) (te := (tOrV (tNotV (tOp (rIxL K) (tVar 6) (tVar 10))) (tOp (rIxL K) (tVar 7) (tVar 10)))) (by rfl) sc__law_along.nd (pi_range1 (by rfl) Z_range (pa_cons (pv 5) pa_nil)) (blkOk_by (N := N__law_along) (own := [("_law_k", 10)]) (sc := defScope s__law_along) (by decide +kernel)) (fun _ _ _ _ _ => (pg_name (i := 10) sc__law_along.nd rfl (by first | exact Or.inl rfl | exact Or.inr rfl))) (fun _ _ _ _ _ => pts_nil) (fun _ _ _ _ _ => (pe_or (pe_not (pe_ix ix_list (pv 6) (pv 10) (fun _ _ => rfl))) (pe_one (pe_ix ix_list (pv 7) (pv 10) (fun _ _ => rfl)))))))) pss_nil)
      (pss_cons (ps_if (pt_cmpR op_eq (pv 4) pe_str (nomark _)) (pss_one (ps_ret (pe_lc (own := [("_law_k", 10)]) (g := gName 10) (tt := tYes) (te := (tOp _ (tOp (rIxL K) (tVar 6) (tVar 10)) (tOp (rIxL K) (tVar 7) (tVar 10)))) (by rfl) sc__law_along.nd (pi_range1 (by rfl) Z_range (pa_cons (pv 5) pa_nil)) (blkOk_by (N := N__law_along) (own := [("_law_k", 10)]) (sc := defScope s__law_along) (by decide +kernel)) (fun _ _ _ _ _ => (pg_name (i := 10) sc__law_along.nd rfl (by first | exact Or.inl rfl | exact Or.inr rfl))) (fun _ _ _ _ _ => pts_nil) (fun _ _ _ _ _ => (pe_cmpR op_eq (pe_ix ix_list (pv 6) (pv 10) (fun _ _ => rfl)) (pe_ix ix_list (pv 7) (pv 10) (fun _ _ => rfl)) (nomark _)))))) pss_nil)
      (pss_one (ps_ret (pe_callX G__law_temporal hr (pa_cons (pv 4) (pa_cons (pv 6) (pa_cons (pv 7) (pa_cons (pv 3) pa_nil))))))))))))))))))))), ?_⟩
    try dsimp only [cxOf]
    have hRl : (R.map stD).length = R.length := List.length_map _
    have hRa : ∀ (i : Nat) (d : PyData), (R.map stD)[i]? = some d → d = stD (R.getD i []) ∧ StOk N (R.getD i []) := fun i d hd => by
      rw [List.getElem?_map] at hd
      cases hi : R[i]? with
      | none =>
        rw [hi] at hd
        cases hd
      | some is =>
        rw [hi] at hd
        cases hd
        have eg : R.getD i [] = is := by rw [List.getD_eq_getElem?_getD, hi] <;> rfl
        rw [eg]
        exact ⟨rfl, hst is (List.mem_of_getElem? hi)⟩
    generalize hT : tr R.length b (fun p => rOf N (R.getD p [])) = T at *
    have tlen : ∀ (σ : L2.St) H', σ[2]? = some (some v2) → Ex H H' → Ev (tCB (rLenS K) (tCons (tVar 2) tNil)) σ H' (.int (R.length : Int)) := fun σ H' s2 e => ev_is (ev_lenD (.inl (e_var s2 (h2.mono e)))) (by rw [hRl])
    have ix : ∀ (X : Nat → Bool) (k j : Nat) (v : V) (i : Nat) (σ : L2.St) H', σ[k]? = some (some v) → σ[j]? = some (some (.int (i : Int))) → i < R.length → Da K H' v (.list (blD R.length X)) → Ev (tOp (rIxL K) (tVar k) (tVar j)) σ H' (.bl (X i)) := fun X k j v i σ H' sk sj hi r => ev_bl (e_ixL (e_var sk r) (ev_var sj) (atI_bl hi))
    cases f with
    | tt =>
      refine b_asg (v := .str "true") (Ex.refl H) (by walk_at "ev") fun H1 e1 => ?_
      refine b_asg e1 (tlen _ H rfl (Ex.refl H)) fun H2 e2 => ?_
      refine b_yes e2 (by walk_at "ev") (by decide +kernel) fun H3 e3 => ?_
      refine b_retL e3 ((l_lcL (fun _ => true) (fun _ => .bool true) (e_var rfl h2) (by rw [hRl]; omega) (fun _ => rfl) (fun _ => rfl) (fun i v d H8 e8 hd r => evt_yes) (fun i v d H8 e8 hd r _ => e_bl (ev_is (ev_op (ev_var rfl) ev_c (rv_eq rfl)) (by decide +kernel)))).is ?_) fun p xs H4 hp e4 => q p xs H4 (fresh_back e3 hp) e4
      rw [hRl, giv_bl]
      exact blD_congr fun p hp => by rw [← hT] <;> rfl
    | ff =>
      refine b_asg (v := .str "false") (Ex.refl H) (by walk_at "ev") fun H1 e1 => ?_
      refine b_asg e1 (tlen _ H rfl (Ex.refl H)) fun H2 e2 => ?_
      refine b_yes e2 (by walk_at "ev") (by decide +kernel) fun H3 e3 => ?_
      refine b_retL e3 ((l_lcL (fun _ => true) (fun _ => .bool false) (e_var rfl h2) (by rw [hRl]; omega) (fun _ => rfl) (fun _ => rfl) (fun i v d H8 e8 hd r => evt_yes) (fun i v d H8 e8 hd r _ => e_bl (ev_is (ev_op (ev_var rfl) ev_c (rv_eq rfl)) (by decide +kernel)))).is ?_) fun p xs H4 hp e4 => q p xs H4 (fresh_back e3 hp) e4
      rw [hRl, giv_bl]
      exact blD_congr fun p hp => by rw [← hT] <;> rfl
    | cmp c t u =>
      refine b_asg (v := .str c.w) (Ex.refl H) (by walk_at "ev") fun H1 e1 => ?_
      refine b_asg e1 (tlen _ H rfl (Ex.refl H)) fun H2 e2 => ?_
      refine b_skip e2 (by walk_at "ev") (by cases c <;> decide +kernel) fun H3 e3 => ?_
      refine b_yes e3 (by walk_at "ev") (by cases c <;> decide +kernel) fun H4 e4 => ?_
      refine b_retL e4 ((l_lcL (fun _ => true) (fun i => .bool (T (.cmp c t u) i)) (e_var rfl h2) (by rw [hRl]; omega) (fun _ => rfl) (fun _ => rfl) (fun i v d H8 e8 hd r => evt_yes) (fun i v d H8 e8 hd r _ => ?_)).is (by rw [hRl, giv_bl])) fun p xs H5 hp e5 => q p xs H5 (fresh_back e4 hp) e5
      obtain ⟨rfl, hso⟩ := hRa i d hd
      refine e_call (ds := [(Fm.cmp c t u).d, .list (N.map PyData.str), stD (R.getD i [])]) (K27.ea_cons (e_var rfl (h0.mono e8)) (K27.ea_cons (e_var rfl (h1.mono e8)) (K27.ea_cons (e_var rfl r) K27.ea_nil))) ⟨c, t, u, _, rfl, hf, hso, ?_⟩
      rw [← hT] <;> rfl
    | un o g =>
      have hd' : g.dp ≤ n := Nat.le_of_succ_le_succ hd
      refine b_asg (v := .str o.w) (Ex.refl H) (by walk_at "ev") fun H1 e1 => ?_
      refine b_asg e1 (tlen _ H rfl (Ex.refl H)) fun H2 e2 => ?_
      refine b_skip e2 (by walk_at "ev") (by cases o <;> decide +kernel) fun H3 e3 => ?_
      refine b_skip e3 (by walk_at "ev") (by cases o <;> decide +kernel) fun H4 e4 => ?_
      refine b_asgD (K := K) e4 (EL.e (l_call (ds := [g.d, .list (N.map PyData.str), .list (R.map stD), .int (b : Nat)]) (K27.ea_cons (e_ixT (e_var rfl h0) ev_c at1) (K27.ea_cons (e_var rfl h1) (K27.ea_cons (e_var rfl h2) (K27.ea_cons (e_int (ev_var rfl)) K27.ea_nil)))) ⟨g, R, b, rfl, hf, hd', hst, hb, hn, rfl⟩)) fun v6 H5 e5 r6 => ?_
      rw [hT] at r6
      show tSeq _ _ _ [some v0, some v1, some v2, some (.int (b : Nat)), some (.str o.w), some (.int (R.length : Int)), some v6, none, none, none, none] H5
      cases o with
      | not =>
        refine b_yes (Ex.refl H5) (by walk_at "ev") (by decide +kernel) fun H6 e6 => ?_
        refine b_retL e6 ((l_lcL (fun _ => true) (fun i => .bool (!T g i)) (e_var rfl r6) (by rw [blD_len]; omega) (fun _ => rfl) (fun _ => rfl) (fun i v d H8 e8 hd r => evt_yes) (fun i v d H8 e8 hd r _ => ?_)).is ?_) fun p xs H7 hp e7 => q p xs H7 (fresh_back (e5.trans e6) hp) (e5.trans e7)
        · obtain ⟨_, rfl⟩ := blD_get hd
          exact e_bl (ev_notV (ev_bl (e_var rfl r)))
        · rw [blD_len, giv_bl]
          exact blD_congr fun p hp => by rw [← hT] <;> rfl
      | next =>
        refine b_skip (Ex.refl H5) (by walk_at "ev") (by decide +kernel) fun H6 e6 => ?_
        refine b_yes e6 (by walk_at "ev") (by decide +kernel) fun H7 e7 => ?_
        refine b_retL e7 ((l_lcR (n := (R.length : Int)) (fun _ => true) (fun i => .bool (T g (nx R.length b i))) (Evl.ea_cons (ev_var rfl) Evl.ea_nil) (by omega) (fun _ => rfl) (fun _ => rfl) (fun i H8 e8 hi => evt_yes) (fun i H8 e8 hi _ => ?_)).is ?_) fun p xs H8 hp e8 => q p xs H8 (fresh_back (e5.trans e7) hp) (e5.trans e8)
        · exact e_ixL (e_var rfl (r6.mono e8)) (ev_int (e_call (ds := [.int (i : Nat), .int (b : Nat), .int (R.length : Nat)]) (K27.ea_cons (e_int (ev_var rfl)) (K27.ea_cons (e_int (ev_var rfl)) (K27.ea_cons (e_int (ev_var rfl)) K27.ea_nil))) ⟨i, b, R.length, rfl, rfl⟩)) (atI_bl (nx_lt hb))
        · rw [giv_blN]
          exact blD_congr fun p hp => by rw [← hT] <;> rfl
      | ev =>
        refine b_skip (Ex.refl H5) (by walk_at "ev") (by decide +kernel) fun H6 e6 => ?_
        refine b_skip e6 (by walk_at "ev") (by decide +kernel) fun H7 e7 => ?_
        refine b_yes e7 (by walk_at "ev") (by decide +kernel) fun H7' e7' => ?_
        refine b_retL e7' ((l_lcR (n := (R.length : Int)) (fun _ => true) (fun i => .bool (dec (nx R.length b) (fun _ => true) (T g) false R.length i)) (Evl.ea_cons (ev_var rfl) Evl.ea_nil) (by omega) (fun _ => rfl) (fun _ => rfl) (fun i H8 e8 hi => evt_yes) (fun i H8 e8 hi _ => ?_)).is ?_) fun p xs H8 hp e8 => q p xs H8 (fresh_back (e5.trans e7') hp) (e5.trans e8)
        · exact e_call (ds := [.int (i : Nat), .int (b : Nat), .list (blD R.length fun _ => true), .list (blD R.length (T g)), .bool false]) (K27.ea_cons (e_int (ev_var rfl)) (K27.ea_cons (e_int (ev_var rfl)) (K27.ea_cons (EL.e ((l_lcL (fun _ => true) (fun _ => .bool true) (e_var rfl (r6.mono e8)) (by rw [blD_len]; omega) (fun _ => rfl) (fun _ => rfl) (fun i v d H8 e8 hd r => evt_yes) (fun i v d H8 e8 hd r _ => e_bl ev_c)).is (by rw [blD_len, giv_bl]))) (K27.ea_cons (e_var rfl (r6.mono e8)) (K27.ea_cons (e_bl ev_c) K27.ea_nil))))) ⟨R.length, b, i, _, T g, false, rfl, by omega, hb, hn, rfl⟩
        · rw [giv_blN]
          exact blD_congr fun p hp => by rw [← hT] <;> rfl
      | al =>
        refine b_skip (Ex.refl H5) (by walk_at "ev") (by decide +kernel) fun H6 e6 => ?_
        refine b_skip e6 (by walk_at "ev") (by decide +kernel) fun H7 e7 => ?_
        refine b_skip e7 (by walk_at "ev") (by decide +kernel) fun H7a e7a => ?_
        refine b_yes e7a (by walk_at "ev") (by decide +kernel) fun H7' e7' => ?_
        refine b_retL e7' ((l_lcR (n := (R.length : Int)) (fun _ => true) (fun i => .bool (dec (nx R.length b) (T g) (fun _ => false) true R.length i)) (Evl.ea_cons (ev_var rfl) Evl.ea_nil) (by omega) (fun _ => rfl) (fun _ => rfl) (fun i H8 e8 hi => evt_yes) (fun i H8 e8 hi _ => ?_)).is ?_) fun p xs H8 hp e8 => q p xs H8 (fresh_back (e5.trans e7') hp) (e5.trans e8)
        · exact e_call (ds := [.int (i : Nat), .int (b : Nat), .list (blD R.length (T g)), .list (blD R.length fun _ => false), .bool true]) (K27.ea_cons (e_int (ev_var rfl)) (K27.ea_cons (e_int (ev_var rfl)) (K27.ea_cons (e_var rfl (r6.mono e8)) (K27.ea_cons (EL.e ((l_lcL (fun _ => true) (fun _ => .bool false) (e_var rfl (r6.mono e8)) (by rw [blD_len]; omega) (fun _ => rfl) (fun _ => rfl) (fun i v d H8 e8 hd r => evt_yes) (fun i v d H8 e8 hd r _ => e_bl ev_c)).is (by rw [blD_len, giv_bl]))) (K27.ea_cons (e_bl ev_c) K27.ea_nil))))) ⟨R.length, b, i, T g, _, true, rfl, by omega, hb, hn, rfl⟩
        · rw [giv_blN]
          exact blD_congr fun p hp => by rw [← hT] <;> rfl
    | bi o g h =>
      have hd' : g.dp ≤ n ∧ h.dp ≤ n := by
        have : max g.dp h.dp + 1 ≤ n + 1 := hd
        omega
      refine b_asg (v := .str o.w) (Ex.refl H) (by walk_at "ev") fun H1 e1 => ?_
      refine b_asg e1 (tlen _ H rfl (Ex.refl H)) fun H2 e2 => ?_
      refine b_skip e2 (by walk_at "ev") (by cases o <;> decide +kernel) fun H3 e3 => ?_
      refine b_skip e3 (by walk_at "ev") (by cases o <;> decide +kernel) fun H4 e4 => ?_
      refine b_asgD (K := K) e4 (EL.e (l_call (ds := [g.d, .list (N.map PyData.str), .list (R.map stD), .int (b : Nat)]) (K27.ea_cons (e_ixT (e_var rfl h0) ev_c at1) (K27.ea_cons (e_var rfl h1) (K27.ea_cons (e_var rfl h2) (K27.ea_cons (e_int (ev_var rfl)) K27.ea_nil)))) ⟨g, R, b, rfl, hf.1, hd'.1, hst, hb, hn, rfl⟩)) fun v6 H5 e5 r6 => ?_
      rw [hT] at r6
      have h05 := h0.mono e5
      show tSeq _ _ _ [some v0, some v1, some v2, some (.int (b : Nat)), some (.str o.w), some (.int (R.length : Int)), some v6, none, none, none, none] H5
      refine b_skip (Ex.refl H5) (by walk_at "ev") (by cases o <;> decide +kernel) fun H6 e6 => ?_
      refine b_skip e6 (by walk_at "ev") (by cases o <;> decide +kernel) fun H7 e7 => ?_
      refine b_skip e7 (by walk_at "ev") (by cases o <;> decide +kernel) fun H8 e8 => ?_
      refine b_skip e8 (by walk_at "ev") (by cases o <;> decide +kernel) fun H9 e9 => ?_
      refine b_asgD (K := K) e9 (EL.e (l_call (ds := [h.d, .list (N.map PyData.str), .list (R.map stD), .int (b : Nat)]) (K27.ea_cons (e_ixT (e_var rfl h05) ev_c at2) (K27.ea_cons (e_var rfl (h1.mono e5)) (K27.ea_cons (e_var rfl (h2.mono e5)) (K27.ea_cons (e_int (ev_var rfl)) K27.ea_nil)))) ⟨h, R, b, rfl, hf.2, hd'.2, hst, hb, hn, rfl⟩)) fun v7 H10 e10 r7 => ?_
      rw [hT] at r7
      have r60 := r6.mono e10
      have e010 := e5.trans e10
      show tSeq _ _ _ [some v0, some v1, some v2, some (.int (b : Nat)), some (.str o.w), some (.int (R.length : Int)), some v6, some v7, none, none, none] H10
      have fin : ∀ (H11 : Hp), Ex H10 H11 → ∀ (X : Nat → Bool), (∀ p, X p = T (.bi o g h) p) → ∀ p xs H12, H11 p = none → Ex H10 H12 → H12 p = some (.lst xs) → DaAll K H12 xs (blD R.length X) → Q (.ref p) H12 := fun H11 e11 X hX p xs H12 hp e12 h12 r => by
        have eX : X = T (.bi o g h) := funext hX
        subst eX
        exact q p xs H12 (fresh_back (e010.trans e11) hp) (e010.trans e12) h12 r
      cases o with
      | and =>
        refine b_yes (Ex.refl H10) (by walk_at "ev") (by decide +kernel) fun H11 e11 => ?_
        exact b_retL e11 ((l_lcR (n := (R.length : Int)) (fun _ => true) (fun i => .bool (T g i && T h i)) (Evl.ea_cons (ev_var rfl) Evl.ea_nil) (by omega) (fun _ => rfl) (fun _ => rfl) (fun i H12 e12 hi => evt_yes) (fun i H12 e12 hi _ => e_bl (ev_andV (ix (T g) 6 10 v6 i _ H12 rfl rfl (by omega) (r60.mono e12)) fun _ => ix (T h) 7 10 v7 i _ H12 rfl rfl (by omega) (r7.mono e12)))).is (giv_blN _ _)) (fin H11 e11 _ fun p => by rw [← hT] <;> rfl)
      | or =>
        refine b_skip (Ex.refl H10) (by walk_at "ev") (by decide +kernel) fun H10a e10a => ?_
        refine b_yes e10a (by walk_at "ev") (by decide +kernel) fun H11 e11 => ?_
        exact b_retL e11 ((l_lcR (n := (R.length : Int)) (fun _ => true) (fun i => .bool (T g i || T h i)) (Evl.ea_cons (ev_var rfl) Evl.ea_nil) (by omega) (fun _ => rfl) (fun _ => rfl) (fun i H12 e12 hi => evt_yes) (fun i H12 e12 hi _ => e_bl (ev_orV (ix (T g) 6 10 v6 i _ H12 rfl rfl (by omega) (r60.mono e12)) fun _ => ix (T h) 7 10 v7 i _ H12 rfl rfl (by omega) (r7.mono e12)))).is (giv_blN _ _)) (fin H11 e11 _ fun p => by rw [← hT] <;> rfl)
      | imp =>
        refine b_skip (Ex.refl H10) (by walk_at "ev") (by decide +kernel) fun H10a e10a => ?_
        refine b_skip e10a (by walk_at "ev") (by decide +kernel) fun H10b e10b => ?_
        refine b_yes e10b (by walk_at "ev") (by decide +kernel) fun H11 e11 => ?_
        exact b_retL e11 ((l_lcR (n := (R.length : Int)) (fun _ => true) (fun i => .bool (!T g i || T h i)) (Evl.ea_cons (ev_var rfl) Evl.ea_nil) (by omega) (fun _ => rfl) (fun _ => rfl) (fun i H12 e12 hi => evt_yes) (fun i H12 e12 hi _ => e_bl (ev_orV (ev_notV (ix (T g) 6 10 v6 i _ H12 rfl rfl (by omega) (r60.mono e12))) fun _ => ix (T h) 7 10 v7 i _ H12 rfl rfl (by omega) (r7.mono e12)))).is (giv_blN _ _)) (fin H11 e11 _ fun p => by rw [← hT] <;> rfl)
      | same =>
        refine b_skip (Ex.refl H10) (by walk_at "ev") (by decide +kernel) fun H10a e10a => ?_
        refine b_skip e10a (by walk_at "ev") (by decide +kernel) fun H10b e10b => ?_
        refine b_skip e10b (by walk_at "ev") (by decide +kernel) fun H10c e10c => ?_
        refine b_yes e10c (by walk_at "ev") (by decide +kernel) fun H11 e11 => ?_
        exact b_retL e11 ((l_lcR (n := (R.length : Int)) (fun _ => true) (fun i => .bool (T g i == T h i)) (Evl.ea_cons (ev_var rfl) Evl.ea_nil) (by omega) (fun _ => rfl) (fun _ => rfl) (fun i H12 e12 hi => evt_yes) (fun i H12 e12 hi _ => e_bl (ev_is (ev_op (ix (T g) 6 10 v6 i _ H12 rfl rfl (by omega) (r60.mono e12)) (ix (T h) 7 10 v7 i _ H12 rfl rfl (by omega) (r7.mono e12)) (rv_eq rfl)) (congrArg V.bl dec_bl2)))).is (giv_blN _ _)) (fin H11 e11 _ fun p => by rw [← hT] <;> rfl)
      | untl =>
        refine b_skip (Ex.refl H10) (by walk_at "ev") (by decide +kernel) fun Ha ea => ?_
        refine b_skip ea (by walk_at "ev") (by decide +kernel) fun Hb eb => ?_
        refine b_skip eb (by walk_at "ev") (by decide +kernel) fun Hc ec => ?_
        refine b_skip ec (by walk_at "ev") (by decide +kernel) fun H11 e11 => ?_
        exact b_retL e11 (l_call (ds := [.str Bi.untl.w, .list (blD R.length (T g)), .list (blD R.length (T h)), .int (b : Nat)]) (K27.ea_cons (e_str (ev_var rfl)) (K27.ea_cons (e_var rfl r60) (K27.ea_cons (e_var rfl r7) (K27.ea_cons (e_int (ev_var rfl)) K27.ea_nil)))) ⟨.untl, _, b, T g, T h, rfl, rfl, hb, hn, rfl⟩) (fin H11 e11 _ fun p => by rw [← hT] <;> rfl)
      | unl =>
        refine b_skip (Ex.refl H10) (by walk_at "ev") (by decide +kernel) fun Ha ea => ?_
        refine b_skip ea (by walk_at "ev") (by decide +kernel) fun Hb eb => ?_
        refine b_skip eb (by walk_at "ev") (by decide +kernel) fun Hc ec => ?_
        refine b_skip ec (by walk_at "ev") (by decide +kernel) fun H11 e11 => ?_
        exact b_retL e11 (l_call (ds := [.str Bi.unl.w, .list (blD R.length (T g)), .list (blD R.length (T h)), .int (b : Nat)]) (K27.ea_cons (e_str (ev_var rfl)) (K27.ea_cons (e_var rfl r60) (K27.ea_cons (e_var rfl r7) (K27.ea_cons (e_int (ev_var rfl)) K27.ea_nil)))) ⟨.unl, _, b, T g, T h, rfl, rfl, hb, hn, rfl⟩) (fin H11 e11 _ fun p => by rw [← hT] <;> rfl)
      | str =>
        refine b_skip (Ex.refl H10) (by walk_at "ev") (by decide +kernel) fun Ha ea => ?_
        refine b_skip ea (by walk_at "ev") (by decide +kernel) fun Hb eb => ?_
        refine b_skip eb (by walk_at "ev") (by decide +kernel) fun Hc ec => ?_
        refine b_skip ec (by walk_at "ev") (by decide +kernel) fun H11 e11 => ?_
        exact b_retL e11 (l_call (ds := [.str Bi.str.w, .list (blD R.length (T g)), .list (blD R.length (T h)), .int (b : Nat)]) (K27.ea_cons (e_str (ev_var rfl)) (K27.ea_cons (e_var rfl r60) (K27.ea_cons (e_var rfl r7) (K27.ea_cons (e_int (ev_var rfl)) K27.ea_nil)))) ⟨.str, _, b, T g, T h, rfl, rfl, hb, hn, rfl⟩) (fin H11 e11 _ fun p => by rw [← hT] <;> rfl)
      | rel =>
        refine b_skip (Ex.refl H10) (by walk_at "ev") (by decide +kernel) fun Ha ea => ?_
        refine b_skip ea (by walk_at "ev") (by decide +kernel) fun Hb eb => ?_
        refine b_skip eb (by walk_at "ev") (by decide +kernel) fun Hc ec => ?_
        refine b_skip ec (by walk_at "ev") (by decide +kernel) fun H11 e11 => ?_
        exact b_retL e11 (l_call (ds := [.str Bi.rel.w, .list (blD R.length (T g)), .list (blD R.length (T h)), .int (b : Nat)]) (K27.ea_cons (e_str (ev_var rfl)) (K27.ea_cons (e_var rfl r60) (K27.ea_cons (e_var rfl r7) (K27.ea_cons (e_int (ev_var rfl)) K27.ea_nil)))) ⟨.rel, _, b, T g, T h, rfl, rfl, hb, hn, rfl⟩) (fin H11 e11 _ fun p => by rw [← hT] <;> rfl)
end
end K27

/-! K27: the law's plain part: the run from the next place on. -/
namespace K27
open PySem PySem.Spec PyProof.Rows L2 Evl
theorem turn_at {α : Type} {B : List α} {t p : Nat} (ht : t < B.length) (hp : p < B.length) : (B.drop t ++ B.take t)[p]? = B[(t + p) % B.length]? := by
  by_cases h : p < B.length - t
  · rw [List.getElem?_append_left (by rw [List.length_drop]; exact h), List.getElem?_drop, Nat.mod_eq_of_lt (by omega)]
  · rw [List.getElem?_append_right (by rw [List.length_drop]; omega), List.length_drop, List.getElem?_take, if_pos (by omega)]
    have e : (t + p) % B.length = p - (B.length - t) := by
      rw [show t + p = (p - (B.length - t)) + B.length by omega, Nat.add_mod_right, Nat.mod_eq_of_lt (by omega)]
    rw [e]
theorem getD_at {α : Type} {xs ys : List α} {i j : Nat} {d : α} (h : xs[i]? = ys[j]?) : xs.getD i d = ys.getD j d := by
  rw [List.getD_eq_getElem?_getD, List.getD_eq_getElem?_getD, h]
theorem rest_plain (N : List Str) (R : List (List Int)) {b k : Nat} (hb : b < R.length) (hk : k < R.length) : ∃ R1 R2 : List (List Int),
    (if k + 1 ≤ ((R.take b).map stD).length then PyData.tuple [.list (((R.take b).map stD).drop (k + 1)), .list ((R.drop b).map stD)] else .tuple [.list [], .list (((R.drop b).map stD).drop ((k + 1 - ((R.take b).map stD).length) % ((R.drop b).map stD).length) ++ ((R.drop b).map stD).take ((k + 1 - ((R.take b).map stD).length) % ((R.drop b).map stD).length))]) = .tuple [.list (R1.map stD), .list (R2.map stD)] ∧
    PyData.tuple [.list (((R.map stD).take b).drop (k + 1)), .list ((R.map stD).drop (b + (k + 1 - b)) ++ ((R.map stD).take (b + (k + 1 - b))).drop b)] = .tuple [.list (R1.map stD), .list (R2.map stD)] ∧
    R1.length < (R1 ++ R2).length ∧ (R1 ++ R2).length ≤ R.length ∧ (∀ is ∈ R1 ++ R2, is ∈ R) ∧
    ∀ f : Fm, tr (R1 ++ R2).length R1.length (fun p => rOf N ((R1 ++ R2).getD p [])) f 0 = tr R.length b (fun p => rOf N (R.getD p [])) f (nx R.length b k) := by
  have la : ((R.take b).map stD).length = b := by rw [List.length_map, List.length_take]; omega
  have lb : ((R.drop b).map stD).length = R.length - b := by rw [List.length_map, List.length_drop]
  rw [la, lb]
  by_cases h : k + 1 ≤ b
  · rw [if_pos h]
    have e0 : k + 1 - b = 0 := by omega
    have eR : (R.take b).drop (k + 1) ++ R.drop b = R.drop (k + 1) := by
      conv => rhs; rw [← List.take_append_drop b R]
      rw [List.drop_append, List.length_take, Nat.min_eq_left (by omega), show k + 1 - b = 0 by omega, List.drop_zero]
    have l1 : ((R.take b).drop (k + 1)).length = b - (k + 1) := by rw [List.length_drop, List.length_take]; omega
    refine ⟨(R.take b).drop (k + 1), R.drop b, by simp only [List.map_drop], ?_, ?_, ?_, ?_, fun f => ?_⟩
    · have e1 : ((R.map stD).take b).drop b = [] := List.drop_eq_nil_of_le (by rw [List.length_take]; omega)
      simp only [e0, Nat.add_zero, List.map_drop, List.map_take, e1, List.append_nil]
    · rw [List.length_append, l1, List.length_drop]
      omega
    · rw [eR, List.length_drop]
      omega
    · rw [eR]
      exact fun is his => List.mem_of_mem_drop his
    · rw [eR, l1, List.length_drop]
      exact tr_cut hb h (fun p hp => by
        congr 1
        exact getD_at (by rw [List.getElem?_drop, Nat.add_comm])) f
  · rw [if_neg h]
    have hbl : 0 < R.length - b := by omega
    have htl := Nat.mod_lt (k + 1 - b) hbl
    have hdl : (R.drop b).length = R.length - b := List.length_drop ..
    refine ⟨[], (R.drop b).drop ((k + 1 - b) % (R.length - b)) ++ (R.drop b).take ((k + 1 - b) % (R.length - b)), ?_, ?_, ?_, ?_, ?_, fun f => ?_⟩
    · rw [List.map_append, List.map_drop (f := stD) (l := R.drop b), List.map_take (f := stD) (l := R.drop b)] <;> rfl
    · have e1 : ((R.map stD).take b).drop (k + 1) = [] := List.drop_eq_nil_of_le (by rw [List.length_take]; omega)
      rw [e1, List.map_append, List.map_drop, List.map_take, List.map_drop]
      generalize hM : R.map stD = M
      have hMl : M.length = R.length := by rw [← hM, List.length_map]
      have e2 : M.drop (b + (k + 1 - b)) ++ (M.take (b + (k + 1 - b))).drop b = (M.drop b).drop ((k + 1 - b) % (R.length - b)) ++ (M.drop b).take ((k + 1 - b) % (R.length - b)) := by
        by_cases hlt : k + 1 - b < R.length - b
        · rw [Nat.mod_eq_of_lt hlt, List.drop_drop, List.drop_take, show b + (k + 1 - b) - b = k + 1 - b by omega]
        · have e3 : k + 1 - b = R.length - b := by omega
          rw [e3, Nat.mod_self, List.drop_zero, List.take_zero, List.append_nil, List.drop_eq_nil_of_le (by omega), List.nil_append, List.take_of_length_le (by omega)]
      rw [e2] <;> rfl
    · rw [List.nil_append, List.length_append, List.length_drop, List.length_take, hdl]
      show 0 < _
      omega
    · rw [List.nil_append, List.length_append, List.length_drop, List.length_take, hdl]
      omega
    · intro is his
      rw [List.nil_append] at his
      rcases List.mem_append.mp his with h1 | h1
      · exact List.mem_of_mem_drop (List.mem_of_mem_drop h1)
      · exact List.mem_of_mem_drop (List.mem_of_mem_take h1)
    · rw [List.nil_append]
      have el : ((R.drop b).drop ((k + 1 - b) % (R.length - b)) ++ (R.drop b).take ((k + 1 - b) % (R.length - b))).length = R.length - b := by
        rw [List.length_append, List.length_drop, List.length_take, hdl]
        omega
      rw [el]
      refine tr_turn (t := (k + 1 - b) % (R.length - b)) hb (by omega) hk rfl (fun p hp => ?_) f
      congr 1
      refine getD_at ?_
      have z := turn_at (B := R.drop b) (t := (k + 1 - b) % (R.length - b)) (p := p) (by rw [hdl]; exact htl) (by rw [hdl]; exact hp)
      rw [hdl] at z
      rw [z, List.getElem?_drop]
theorem law_plain {n b : Nat} {ρ : Nat → Str → Int} {n' b' : Nat} {ρ' : Nat → Str → Int} (hb : b < n) {k : Nat} (hk : k < n) (f : Fm) (h : ∀ f : Fm, tr n' b' ρ' f 0 = tr n b ρ f (nx n b k)) : tr n' b' ρ' (shr (moved (ρ k) f)) 0 = tr n b ρ f k := by
  rw [h, tr_shr hb, tr_moved hb f k hk]
end K27

/-! K27: the law. -/
namespace K27
open PySem PySem.Spec PyProof.Rows L2 Evl
local macro_rules | `(tactic| walk_at "ev") => `(tactic| first
  | exact ev_c
  | exact ev_var rfl
  | (refine' et_test ?h; (case h => walk_at "ev"))
  | (refine' et_B ?h; (case h => walk_at "ev"))
  | (refine' et_not ?h; (case h => walk_at "ev"))
  | (refine' et_and ?a (fun _ => ?b); (case a => walk_at "ev"); (case b => walk_at "ev"))
  | (refine' et_or ?a (fun _ => ?b); (case a => walk_at "ev"); (case b => walk_at "ev"))
  | (refine' ev_op ?a ?b (rv_eq ?c); (case a => walk_at "ev"); (case b => walk_at "ev"); (case c => rfl))
  | (refine' ev_op ?a ?b rv_I0; (case a => walk_at "ev"); (case b => walk_at "ev"))
  | (refine' ev_inU ?a ?b ?c ?d; (case a => walk_at "ev"); (case b => (refine' eu_tup ?x ?y; (case x => walk_at "ev"); (case y => decide))); (case c => rfl); (case d => rfl))
  | (refine' ev_str (e_ixT ?a ?b ?c); (case a => walk_at "ed"); (case b => walk_at "ev"); (case c => first | exact at0 | exact at1 | exact at2))
  | (refine' ev_int (e_ixT ?a ?b ?c); (case a => walk_at "ed"); (case b => walk_at "ev"); (case c => first | exact at0 | exact at1 | exact at2))
  | exact Evl.ea_nil
  | (refine' Evl.ea_cons ?a ?b; (case a => walk_at "ev"); (case b => walk_at "ev")))
local macro_rules | `(tactic| walk_at "ed") => `(tactic| first
  | exact e_var rfl (by assumption)
  | exact e_var rfl (by constructor)
  | exact K27.ea_nil
  | (refine' K27.ea_cons ?a ?b; (case a => walk_at "ed"); (case b => walk_at "ed"))
  | (refine' e_tup ?a ?b; (case a => walk_at "ed"); (case b => (simp only [List.length_cons, List.length_nil, List.length_append]; omega)))
  | (refine' e_ixT ?a ?b ?c; (case a => walk_at "ed"); (case b => walk_at "ev"); (case c => first | exact at0 | exact at1 | exact at2))
  | (refine' e_ev ?a ?b; (case a => walk_at "ev"); (case b => first | exact .str _ | exact .int _ | exact .bl _ | assumption)))
theorem cmps_ok {N : List Str} : ∀ {f : Fm}, f.fine N → ∀ c ∈ f.cmps, isCmp c = true ∧ c.fine N
  | .tt, _, c, h => by cases h
  | .ff, _, c, h => by cases h
  | .cmp k t u, hf, c, h => by
    obtain rfl := List.mem_singleton.mp h
    exact ⟨rfl, hf⟩
  | .un o f, hf, c, h => cmps_ok (f := f) hf c h
  | .bi o f g, hf, c, h => by
    rcases List.mem_append.mp h with h | h
    · exact cmps_ok (f := f) hf.1 c h
    · exact cmps_ok (f := g) hf.2 c h
theorem stD_plq {is : List Int} (h : is.length ≤ 10000) : plq (stD is) = true ∧ dq (stD is) ≤ 2 := by
  have h1 : ∀ js : List Int, plqs (js.map PyData.int) = true ∧ dqs (js.map PyData.int) ≤ 1 := fun js => by
    induction js with
    | nil => exact ⟨rfl, by decide⟩
    | cons a r ih =>
      refine ⟨?_, ?_⟩
      · show (true && plqs (r.map PyData.int)) = true
        rw [ih.1] <;> rfl
      · show max 1 (dqs (r.map PyData.int)) ≤ 1
        have := ih.2
        omega
  have h2 := h1 is
  refine ⟨?_, ?_⟩
  · show (decide ((is.map PyData.int).length ≤ 10000) && plqs (is.map PyData.int)) = true
    rw [List.length_map, decide_eq_true h, h2.1] <;> rfl
  · show dqs (is.map PyData.int) + 1 ≤ 2
    have := h2.2
    omega
theorem run_plq {R : List (List Int)} (h : ∀ is ∈ R, is.length ≤ 10000) (hl : R.length ≤ 10000) : plq (.list (R.map stD)) = true ∧ dq (.list (R.map stD)) ≤ 3 := by
  have h1 : ∀ S : List (List Int), (∀ is ∈ S, is.length ≤ 10000) → plqs (S.map stD) = true ∧ dqs (S.map stD) ≤ 2 := fun S => by
    induction S with
    | nil => exact fun _ => ⟨rfl, by decide⟩
    | cons a r ih =>
      intro hS
      obtain ⟨i1, i2⟩ := ih fun is his => hS is (List.mem_cons_of_mem _ his)
      obtain ⟨a1, a2⟩ := stD_plq (hS a (List.mem_cons_self ..))
      refine ⟨?_, ?_⟩
      · show (plq (stD a) && plqs (r.map stD)) = true
        rw [a1, i1] <;> rfl
      · show max (dq (stD a)) (dqs (r.map stD)) ≤ 2
        omega
  obtain ⟨h2, h3⟩ := h1 R h
  refine ⟨?_, ?_⟩
  · show (decide ((R.map stD).length ≤ 10000) && plqs (R.map stD)) = true
    rw [List.length_map, decide_eq_true hl, h2] <;> rfl
  · show dqs (R.map stD) + 1 ≤ 3
    omega
theorem rest_plq {R1 R2 : List (List Int)} (h1 : ∀ is ∈ R1 ++ R2, is.length ≤ 10000) (hl : (R1 ++ R2).length ≤ 10000) : plq (.tuple [.list (R1.map stD), .list (R2.map stD)]) = true ∧ dq (.tuple [.list (R1.map stD), .list (R2.map stD)]) ≤ 5 := by
  rw [List.length_append] at hl
  obtain ⟨a1, a2⟩ := run_plq (R := R1) (fun is h => h1 is (List.mem_append.mpr (.inl h))) (by omega)
  obtain ⟨b1, b2⟩ := run_plq (R := R2) (fun is h => h1 is (List.mem_append.mpr (.inr h))) (by omega)
  refine ⟨?_, ?_⟩
  · show (true && (plq (.list (R1.map stD)) && (plq (.list (R2.map stD)) && true))) = true
    rw [a1, b1] <;> rfl
  · show max (dq (.list (R1.map stD))) (max (dq (.list (R2.map stD))) 0) + 1 ≤ 5
    omega
section
variable {P : Program} {w : World} {K : PySem.W.Frag} {mg : Str → Option Value} {base : Heap}
/-- THE RULE for a def over data whose function is named -/
theorem fun_okR {x : String} {st : Stmt} {N ps : List Str} {k : Nat} {R : Rl} {f : Addr} {fd : FuncData} (F : Fun K x x st f fd) (S : FnScope N ps (defScope st)) (len : ∀ ds d, R ds d → ds.length = ps.length)
    (hbody : ∀ (cdv : Value) (A : Around) (outer : List Env) (s : Shared) (H : Hp) (vs : List V) (Q : VK) (E : XK) (ds : List PyData) (d : PyData), Room k (A.deeper (envOfC x (defScope st) s.heap.objs.size f cdv)) → DaAll K H vs ds → R ds d → (∀ v H', Ex H H' → Da K H' v d → Q v H') →
      ∃ t, PSs (cxOf CX0 P w K mg base N x (defScope st) f cdv A outer s H E).nox (defBody st) t ∧ t { nx := fun _ H' => Q .non H', rt := Q } (start N vs) H) : FnOk P w K mg base CX0 (k + 1) f fd ps (spR K R) :=
  F.ok S (fun vs H Q E h => by
    obtain ⟨ds, d, h1, h2, _⟩ := h
    rw [h1.length]
    exact len ds d h2) fun cdv A outer s H vs Q E hr h => by
    obtain ⟨ds, d, h1, h2, h3⟩ := h
    exact hbody cdv A outer s H vs Q E ds d hr h1 h2 h3
abbrev s_law : Stmt := topS 65
abbrev N_law : List Str := ["_law_script", "_law_names_here", "_law_formula_here", "_law_lengths_here", "_law_back", "_law_many", "_law_great", "_law_run", "_law_due", "_law_told", "_law_found_here", "_law_k", "_law_state", "_law_turn", "_law_expected", "_law_rest", "_law_answer", "_law_later"]
theorem sc_law : FnScope N_law ["_law_script"] (defScope s_law) := ⟨rfl, rfl, rfl, by decide +kernel, rfl, by decide +kernel, by decide +kernel⟩
def R_law : Rl := fun ds d => ∃ ns : List Int, ds = [scrD ns] ∧ d = .bool true
theorem ok_law (Z_int : mg "int" = none) (Z_len : mg "len" = none) (Z_list : mg "list" = none) (Z_range : mg "range" = none) (Z_max : mg "max" = none)
    (G__law_cell : FnAt P w K mg base 1 "_law_cell" ["_law_script", "_law_k"] (spR K R_cell)) (G__law_names : FnAt P w K mg base 1 "_law_names" ["_law_cell_here", "_law_many"] (spN K R_names)) (G__law_some : FnAt P w K mg base 4 "_law_some" ["_law_script", "_law_first", "_law_names_here", "_law_many"] (spR K R_some))
    (G__law_lengths : FnAt P w K mg base 1 "_law_lengths" ["_law_cell_here"] (spR K R_lengths)) (G__law_draws : FnAt P w K mg base 2 "_law_draws" ["_law_script", "_law_first", "_law_count"] (spN K R_draws)) (G__law_states : FnAt P w K mg base 1 "_law_states" ["_law_draws_here", "_law_many", "_law_names_here", "_law_great"] (spN K R_states))
    (GA__law_along : ∀ N, NamesOk N → FnAt P w K mg base 30 "_law_along" ["_law_tree", "_law_names_here", "_law_run", "_law_back"] (spN K (R_along N 24))) (GA_truths_along : ∀ N, NamesOk N → FnAt P w K mg base 19 "truths_along" ["formula", "names", "stem", "loop"] (spR K (R_truths_along N)))
    (G__law_bits : FnAt P w K mg base 1 "_law_bits" ["_law_actual", "_law_expected"] (spR K R_bits)) (G__law_found : FnAt P w K mg base 13 "_law_found" ["_law_tree"] (spR K (R_found 12))) (G_state_at : FnAt P w K mg base 1 "state_at" ["stem", "loop", "place"] (spR K R_state_at)) (G__law_same : FnAt P w K mg base 6 "_law_same" ["_law_actual", "_law_expected"] (spR K (R_same 5)))
    (G_suffix : FnAt P w K mg base 1 "suffix" ["stem", "loop", "place"] (spR K R_suffix)) (GA_moved_on : ∀ N, NamesOk N → FnAt P w K mg base 31 "moved_on" ["formula", "names", "state"] (spR K (R_moved_on N))) (G__law_good : FnAt P w K mg base 31 "_law_good" ["_law_tree", "_law_allowed"] (spR K (R_good 24)))
    {f0 : Addr} {fd0 : FuncData} (F0 : Fun K "law" "law" s_law f0 fd0) : FnOk P w K mg base CX0 32 f0 fd0 ["_law_script"] (spR K R_law) := by
  refine fun_okR F0 sc_law (fun ds d ⟨ns, h, _⟩ => by rw [h] <;> rfl) fun cdv A0 outer s H vs Q E ds d hr hv hR q => ?_
  obtain ⟨ns, rfl, rfl⟩ := hR
  obtain ⟨v0, rfl, h0⟩ := hv.i1
  -- names
  obtain ⟨i, hi⟩ : ∃ i : Nat, cellF ns 7 % 26 = (i : Int) := ⟨(cellF ns 7 % 26).toNat, by omega⟩
  obtain ⟨st, hst⟩ : ∃ st : Nat, cellF ns 7 / 26 % 4 = (st : Int) := ⟨(cellF ns 7 / 26 % 4).toNat, by omega⟩
  obtain ⟨m, hm⟩ : ∃ m : Nat, 1 + cellF ns 8 % 3 = (m : Int) := ⟨(1 + cellF ns 8 % 3).toNat, by omega⟩
  obtain ⟨m2, hm2⟩ : ∃ m2 : Nat, 1 + cellF ns 0 % 12 = (m2 : Int) := ⟨(1 + cellF ns 0 % 12).toNat, by omega⟩
  obtain ⟨hNd, hNo⟩ := namesF_ok (i := i) (st := st) (m := m) (by omega) (by omega) (by omega)
  have hNl : (namesF i st m).length = m := namesF_len i st m
  have hN0 : 0 < (namesF i st m).length := by omega
  have G__law_along := GA__law_along _ hNo
  have G_truths_along := GA_truths_along _ hNo
  have G_moved_on := GA_moved_on _ hNo
  refine ⟨_, (pss_cons (ps_set (i := 1) sc_law.nd rfl (by first | exact Or.inl rfl | exact Or.inr rfl) (pe_callX G__law_names hr (pa_cons (pe_callX G__law_cell hr (pa_cons (pv 0) (pa_cons pe_int pa_nil))) (pa_cons (pe_op op_add pe_int (pe_op op_mod (pe_callTy call_intS (by rfl) Z_int bt_int (pa_cons (pe_callX G__law_cell hr (pa_cons (pv 0) (pa_cons pe_int pa_nil))) pa_nil)) pe_int)) pa_nil))))
      (pss_cons (ps_set (i := 2) sc_law.nd rfl (by first | exact Or.inl rfl | exact Or.inr rfl) (pe_callX G__law_some hr (pa_cons (pv 0) (pa_cons pe_int (pa_cons (pv 1) (pa_cons (pe_op op_add pe_int (pe_op op_mod (pe_callTy call_intS (by rfl) Z_int bt_int (pa_cons (pe_callX G__law_cell hr (pa_cons (pv 0) (pa_cons pe_int pa_nil))) pa_nil)) pe_int)) pa_nil))))))
      (pss_cons (ps_set (i := 3) sc_law.nd rfl (by first | exact Or.inl rfl | exact Or.inr rfl) (pe_callX G__law_lengths hr (pa_cons (pe_callX G__law_cell hr (pa_cons (pv 0) (pa_cons pe_int pa_nil))) pa_nil)))
      (pss_cons (ps_set (i := 4) sc_law.nd rfl (by first | exact Or.inl rfl | exact Or.inr rfl) (pe_ix ix_list (pv 3) pe_int (fun _ _ => rfl)))
      (pss_cons (ps_set (i := 5) sc_law.nd rfl (by first | exact Or.inl rfl | exact Or.inr rfl) (pe_op op_add (pv 4) (pe_ix ix_list (pv 3) pe_int (fun _ _ => rfl))))
      (pss_cons (ps_set (i := 6) sc_law.nd rfl (by first | exact Or.inl rfl | exact Or.inr rfl) (pe_op op_mod (pe_callTy call_intS (by rfl) Z_int bt_int (pa_cons (pe_callX G__law_cell hr (pa_cons (pv 0) (pa_cons pe_int pa_nil))) pa_nil)) (pe_op op_sub (pe_op op_pow pe_int pe_int) pe_int)))
      (pss_cons (ps_set (i := 7) sc_law.nd rfl (by first | exact Or.inl rfl | exact Or.inr rfl) (pe_callX G__law_states hr (pa_cons (pe_callX G__law_draws hr (pa_cons (pv 0) (pa_cons pe_int (pa_cons (pe_op op_mul (pv 5) (pe_callB call_lenS (by rfl) Z_len PySem.boot_len (pa_cons (pv 1) pa_nil))) pa_nil)))) (pa_cons (pv 5) (pa_cons (pv 1) (pa_cons (pv 6) pa_nil))))))
      (pss_cons (ps_set (i := 8) sc_law.nd rfl (by first | exact Or.inl rfl | exact Or.inr rfl) (pe_callX G__law_along hr (pa_cons (pv 2) (pa_cons (pv 1) (pa_cons (pv 7) (pa_cons (pv 4) pa_nil))))))
      (pss_cons (ps_set (i := 9) sc_law.nd rfl (by first | exact Or.inl rfl | exact Or.inr rfl) (pe_callX G_truths_along hr (pa_cons (pv 2) (pa_cons (pe_callTy call_listS (by rfl) Z_list bt_list (pa_cons (pv 1) pa_nil)) (pa_cons (pe_slice sl_list (pv 7) po_none (po_some (pv 4))) (pa_cons (pe_slice sl_list (pv 7) (po_some (pv 4)) po_none) pa_nil))))))
      (pss_cons (ps_if (pt_not (pt_val (pe_callX G__law_bits hr (pa_cons (pv 9) (pa_cons (pv 8) pa_nil))))) (pss_one (ps_ret pe_bl)) pss_nil)
      (pss_cons (ps_set (i := 10) sc_law.nd rfl (by first | exact Or.inl rfl | exact Or.inr rfl) (pe_callX G__law_found hr (pa_cons (pv 2) pa_nil)))
      (pss_cons (ps_for PassesOwn.never rfl (pi_range1 (by rfl) Z_range (pa_cons (pv 5) pa_nil)) (pg_name (i := 11) sc_law.nd rfl (by first | exact Or.inl rfl | exact Or.inr rfl)) (pss_cons (ps_set (i := 12) sc_law.nd rfl (by first | exact Or.inl rfl | exact Or.inr rfl) (pe_callX G_state_at hr (pa_cons (pe_slice sl_list (pv 7) po_none (po_some (pv 4))) (pa_cons (pe_slice sl_list (pv 7) (po_some (pv 4)) po_none) (pa_cons (pv 11) pa_nil)))))
      (pss_cons (ps_if (pt_not (pt_val (pe_callX G__law_same hr (pa_cons (pv 12) (pa_cons (pe_ix ix_list (pv 7) (pv 11) (fun _ _ => rfl)) pa_nil))))) (pss_one (ps_ret pe_bl)) pss_nil)
      (pss_cons (ps_set (i := 13) sc_law.nd rfl (by first | exact Or.inl rfl | exact Or.inr rfl) (pe_callB (call_maxS rfl) (by rfl) Z_max bt_max (pa_cons pe_int (pa_cons (pe_op op_sub (pe_op op_add (pv 11) pe_int) (pv 4)) pa_nil))))
      (pss_cons (ps_set (i := 14) sc_law.nd rfl (by first | exact Or.inl rfl | exact Or.inr rfl) (pe_tup (pa_cons (pe_slice sl_list (pv 7) (po_some (pe_op op_add (pv 11) pe_int)) (po_some (pv 4))) (pa_cons (pe_op op_cat (pe_slice sl_list (pv 7) (po_some (pe_op op_add (pv 4) (pv 13))) po_none) (pe_slice sl_list (pv 7) (po_some (pv 4)) (po_some (pe_op op_add (pv 4) (pv 13))))) pa_nil))))
      (pss_cons (ps_set (i := 15) sc_law.nd rfl (by first | exact Or.inl rfl | exact Or.inr rfl) (pe_callX G_suffix hr (pa_cons (pe_slice sl_list (pv 7) po_none (po_some (pv 4))) (pa_cons (pe_slice sl_list (pv 7) (po_some (pv 4)) po_none) (pa_cons (pe_op op_add (pv 11) pe_int) pa_nil)))))
      (pss_cons (ps_if (pt_not (pt_val (pe_callX G__law_same hr (pa_cons (pv 15) (pa_cons (pv 14) pa_nil))))) (pss_one (ps_ret pe_bl)) pss_nil)
      (pss_cons (ps_set (i := 16) sc_law.nd rfl (by first | exact Or.inl rfl | exact Or.inr rfl) (pe_callX G_moved_on hr (pa_cons (pv 2) (pa_cons (pe_callTy call_listS (by rfl) Z_list bt_list (pa_cons (pv 1) pa_nil)) (pa_cons (pv 12) pa_nil)))))
      (pss_cons (ps_if (pt_not (pt_val (pe_callX G__law_good hr (pa_cons (pv 16) (pa_cons (pv 10) pa_nil))))) (pss_one (ps_ret pe_bl)) pss_nil)
      (pss_cons (ps_set (i := 17) sc_law.nd rfl (by first | exact Or.inl rfl | exact Or.inr rfl) (pe_callX G__law_along hr (pa_cons (pv 16) (pa_cons (pv 1) (pa_cons (pe_op op_cat (pe_ix ix_tup (pv 15) pe_int (fun _ _ => rfl)) (pe_ix ix_tup (pv 15) pe_int (fun _ _ => rfl))) (pa_cons (pe_callB call_lenS (by rfl) Z_len PySem.boot_len (pa_cons (pe_ix ix_tup (pv 15) pe_int (fun _ _ => rfl)) pa_nil)) pa_nil))))))
      (pss_one (ps_if (pt_cmpR op_ne (pe_ix ix_list (pv 17) pe_int (fun _ _ => rfl)) (pe_ix ix_list (pv 9) (pv 11) (fun _ _ => rfl)) (nomark _)) (pss_one (ps_ret pe_bl)) pss_nil))))))))))))
      (pss_one (ps_ret pe_bl)))))))))))))), ?_⟩
  try dsimp only [cxOf]
  have cell : ∀ (k : Nat) (z : Int) (σ : L2.St) H', z = (k : Int) → σ[0]? = some (some v0) → Ex H H' → Ev (tCall (spR K R_cell) [] E0 (tCons (tVar 0) (tCons (tC (.int z)) tNil))) σ H' (.int (cellF ns k)) := fun k z σ H' hz s0 e => by
    subst hz
    exact ev_int (e_call (ds := [scrD ns, .int (k : Nat)]) (K27.ea_cons (e_var s0 (h0.mono e)) (K27.ea_cons (e_int ev_c) K27.ea_nil)) ⟨ns, k, rfl, rfl⟩)
  refine b_asgD (K := K) (Ex.refl H) (EL.e (l_call (ds := [.int (cellF ns 7), .int (m : Nat)]) (K27.ea_cons (e_int (cell 7 _ _ H rfl rfl (Ex.refl H))) (K27.ea_cons (e_int (ev_is (ev_op ev_c (ev_op (ev_int1 (cell 8 _ _ H rfl rfl (Ex.refl H))) ev_c (rv_I (by decide))) rv_I0) (congrArg V.int hm))) K27.ea_nil)) ⟨_, i, st, m, rfl, by omega, hi, hst, rfl⟩)) fun v1 H1 e1 r1 => ?_
  generalize hN : namesF i st m = N at *
  -- the formula
  have hF := formF_ok (N := N) hN0 (grF_ok (cellF ns (1 + 1))) (fewF (cellF ns (1 + 2))) (plF (ch8 (cellF ns (1 + 2)) % 4)) (dNs ns 1 (3 * m2)) (m := m2) (by omega)
  refine b_asgD (d := (someF ns N 1 m2).d) (Ex.refl H1) (e_call (ds := [scrD ns, .int ((1 : Nat) : Int), .list (N.map PyData.str), .int (m2 : Nat)]) (K27.ea_cons (e_var rfl (h0.mono e1)) (K27.ea_cons (e_int ev_c) (K27.ea_cons (e_var rfl r1) (K27.ea_cons (e_int (ev_is (ev_op ev_c (ev_op (ev_int1 (cell 0 _ _ H1 rfl rfl e1)) ev_c (rv_I (by decide))) rv_I0) (congrArg V.int hm2))) K27.ea_nil)))) ⟨ns, N, 1, m2, rfl, hN0, by omega, by omega, rfl⟩) fun v2 H2 e2 r2 => ?_
  have hff : (someF ns N 1 m2).fine N ∧ (someF ns N 1 m2).dp ≤ 12 := ⟨hF.1, Nat.le_trans hF.2.1 (by omega)⟩
  clear hF
  generalize someF ns N 1 m2 = f at *
  have e02 := e1.trans e2
  -- the lengths
  refine b_asgD (K := K) (Ex.refl H2) (e_call (ds := [.int (cellF ns 4)]) (K27.ea_cons (e_int (cell 4 _ _ H2 rfl rfl e02)) K27.ea_nil) ⟨_, rfl, rfl⟩) fun v3 H3 e3 r3 => ?_
  have hbd := lenF_bd (cellF ns 4)
  generalize (lenF (cellF ns 4)).1 = b at *
  generalize (lenF (cellF ns 4)).2 = l at *
  obtain ⟨b1, b2, b3⟩ := hbd
  have e03 := e02.trans e3
  refine b_asg (v := .int (b : Int)) (Ex.refl H3) (ev_int (e_ixL (e_var rfl r3) ev_c at0)) fun H4 e4 => ?_
  refine b_asg (v := .int ((b + l : Nat) : Int)) e4 (ev_op (ev_var rfl) (ev_int (e_ixL (e_var rfl r3) ev_c at1)) rv_I0) fun H5 e5 => ?_
  have e05 := e03.trans e5
  have pw : ∀ (σ : L2.St) H', Ev (tOp (rI0 fun i j => .int (i - j)) (tOp (rI CPow fun i j => .int (i ^ j.toNat)) (tC (.int 10)) (tC (.int 18))) (tC (.int 2))) σ H' (.int 999999999999999998) := fun σ H' => ev_is (ev_op (ev_op ev_c ev_c (rv_I (by unfold CPow; decide))) ev_c rv_I0) (by decide +kernel)
  refine b_asg (v := .int (grF (cellF ns 6))) (Ex.refl H5) (ev_op (ev_int1 (cell 6 _ _ H5 rfl rfl e05)) (pw _ _) (rv_I (by decide))) fun H6 e6 => ?_
  have hg := grF_ok (cellF ns 6)
  generalize grF (cellF ns 6) = g at *
  have e06 := e05.trans e6
  have a1 := r1.mono (e2.trans (e3.trans (e5.trans e6)))
  have a2 := r2.mono (e3.trans (e5.trans e6))
  show tSeq _ _ _ [some v0, some v1, some v2, some v3, some (.int (b : Int)), some (.int ((b + l : Nat) : Int)), some (.int g), none, none, none, none, none, none, none, none, none, none, none] H6
  -- the run
  have hmul : (b + l) * N.length ≤ 1000 := by
    rw [hNl]
    have h1 : (b + l) * m ≤ 18 * 3 := Nat.mul_le_mul (by omega) (by omega)
    omega
  refine b_asgD (K := K) (Ex.refl H6) (EL.e (l_call (ds := [.list (ntD (dNs ns 5 ((b + l) * N.length))), .int ((b + l : Nat) : Int), .list (N.map PyData.str), .int g]) (K27.ea_cons (EL.e ((l_call (ds := [scrD ns, .int ((5 : Nat) : Int), .int (((b + l) * N.length : Nat) : Int)]) (K27.ea_cons (e_var rfl (h0.mono e06)) (K27.ea_cons (e_int ev_c) (K27.ea_cons (e_int (ev_is (ev_op (ev_var rfl) (ev_lenD (.inl (e_var rfl a1))) (rv_I (.inl ⟨by omega, by omega⟩))) (congrArg V.int (by rw [List.length_map, Int.natCast_mul])))) K27.ea_nil))) ⟨ns, 5, _, rfl, hmul, rfl⟩).is (dNs_data ns 5 _))) (K27.ea_cons (e_int (ev_var rfl)) (K27.ea_cons (e_var rfl a1) (K27.ea_cons (e_int (ev_var rfl)) K27.ea_nil)))) ⟨N, g, _, b + l, rfl, by omega, by omega, dNs_len _ _ _, rfl⟩)) fun v7 H7 e7 r7 => ?_
  have hRl := statesF_len N g (dNs ns 5 ((b + l) * N.length)) (b + l)
  have hRst : ∀ is ∈ statesF N g (dNs ns 5 ((b + l) * N.length)) (b + l), StOk N is := fun is his => by
    unfold statesF at his
    obtain ⟨k, _, rfl⟩ := List.mem_map.mp his
    exact stF_ok hg _ k
  generalize statesF N g (dNs ns 5 ((b + l) * N.length)) (b + l) = R at *
  have c1 := a1.mono e7
  have c2 := a2.mono e7
  have e07 := e06.trans e7
  show tSeq _ _ _ [some v0, some v1, some v2, some v3, some (.int (b : Int)), some (.int ((b + l : Nat) : Int)), some (.int g), some v7, none, none, none, none, none, none, none, none, none, none] H7
  generalize hn : b + l = n at *
  have hbn : b < R.length := by omega
  have hRn : R.length ≤ 1000 := by omega
  -- due
  refine b_asgD (K := K) (Ex.refl H7) (EL.e (l_call (ds := [f.d, .list (N.map PyData.str), .list (R.map stD), .int (b : Nat)]) (K27.ea_cons (e_var rfl c2) (K27.ea_cons (e_var rfl c1) (K27.ea_cons (e_var rfl r7) (K27.ea_cons (e_int (ev_var rfl)) K27.ea_nil)))) ⟨f, R, b, rfl, hff.1, by omega, hRst, hbn, hRn, rfl⟩)) fun v8 H8 e8 r8 => ?_
  have hAl : (R.take b).length = b := by rw [List.length_take]; omega
  have hBl : (R.drop b).length = R.length - b := List.length_drop ..
  have hAB : (R.take b).length + (R.drop b).length = R.length := by omega
  have slA : ∀ (σ : L2.St) H', σ[7]? = some (some v7) → σ[4]? = some (some (.int (b : Int))) → Ex H7 H' → K27.E K (tSl (rSlL K) (tVar 7) tNoPart (tPart (tVar 4))) σ H' (.list ((R.take b).map stD)) := fun σ H' s7 s4 e => e_is (e_slL (e_var s7 (r7.mono e)) eo_none (eo_some (ev_var s4))) (by rw [cut_to, List.map_take])
  have slB : ∀ (σ : L2.St) H', σ[7]? = some (some v7) → σ[4]? = some (some (.int (b : Int))) → Ex H7 H' → K27.E K (tSl (rSlL K) (tVar 7) (tPart (tVar 4)) tNoPart) σ H' (.list ((R.drop b).map stD)) := fun σ H' s7 s4 e => e_is (e_slL (e_var s7 (r7.mono e)) (eo_some (ev_var s4)) eo_none) (by rw [cut_from, List.map_drop])
  -- told
  refine b_asgD (d := .list (blD R.length (tr R.length b (fun p => rOf N (R.getD p [])) f))) (Ex.refl H8) (e_call (ds := [f.d, .list (N.map PyData.str), .list ((R.take b).map stD), .list ((R.drop b).map stD)]) (K27.ea_cons (e_var rfl (c2.mono e8)) (K27.ea_cons (e_listD (e_var rfl (c1.mono e8))) (K27.ea_cons (slA _ H8 rfl rfl e8) (K27.ea_cons (slB _ H8 rfl rfl e8) K27.ea_nil)))) ⟨f, R.take b, R.drop b, rfl, hff.1, hff.2, hNd, by rw [List.take_append_drop]; exact hRst, by omega, by omega, by rw [hAB, hAl, List.take_append_drop]⟩) fun v9 H9 e9 r9 => ?_
  have e79 := e8.trans e9
  -- bits
  refine b_skip (b := false) (Ex.refl H9) (et_not (a := true) (et_B (ev_bl (e_call (ds := [.list (blD R.length (tr R.length b (fun p => rOf N (R.getD p [])) f)), .list (blD R.length (tr R.length b (fun p => rOf N (R.getD p [])) f))]) (K27.ea_cons (e_var rfl r9) (K27.ea_cons (e_var rfl (r8.mono e9)) K27.ea_nil)) ⟨_, _, rfl, hRn, rfl⟩)))) rfl fun H10 e10 => ?_
  -- found
  refine b_asgD (d := .list (f.cmps.map Fm.d)) e10 (e_call (ds := [f.d]) (K27.ea_cons (e_var rfl (c2.mono e79)) K27.ea_nil) ⟨f, rfl, hff.2, Nat.le_refl _, rfl⟩) fun v10 H11 e11 r10 => ?_
  have e711 := e79.trans e11
  show tSeq _ _ _ [some v0, some v1, some v2, some v3, some (.int (b : Int)), some (.int (n : Int)), some (.int g), some v7, some v8, some v9, some v10, none, none, none, none, none, none, none] H11
  refine q_forR1 (n := (n : Int)) (Evl.ea_cons (ev_var rfl) Evl.ea_nil) (by omega) (fun k σ' H' => (∃ o11 o12 o13 o14 o15 o16 o17, σ' = [some v0, some v1, some v2, some v3, some (.int (b : Int)), some (.int (n : Int)), some (.int g), some v7, some v8, some v9, some v10, o11, o12, o13, o14, o15, o16, o17]) ∧ Ex H11 H') (fun H12 e12 => ⟨⟨none, none, none, none, none, none, none, rfl⟩, e12⟩) ?_ ?_
  · rintro k σ' H12 hk ⟨⟨o11, o12, o13, o14, o15, o16, o17, rfl⟩, e12⟩
    have hkR : k < R.length := by omega
    have f12 := e711.trans e12
    show tSeq _ _ _ [some v0, some v1, some v2, some v3, some (.int (b : Int)), some (.int (n : Int)), some (.int g), some v7, some v8, some v9, some v10, some (.int (k : Int)), o12, o13, o14, o15, o16, o17] H12
    have hRk : (R.map stD)[k]? = some (stD (R.getD k [])) := by
      rw [List.getElem?_map, List.getElem?_eq_getElem hkR, List.getD_eq_getElem?_getD, List.getElem?_eq_getElem hkR] <;> rfl
    have hRm : R.getD k [] ∈ R := by
      rw [List.getD_eq_getElem?_getD, List.getElem?_eq_getElem hkR]
      exact List.getElem_mem _
    have hsk := hRst _ hRm
    -- state
    refine b_asgD (d := stD (R.getD k [])) (Ex.refl H12) (e_call (ds := [.list ((R.take b).map stD), .list ((R.drop b).map stD), .int (k : Nat)]) (K27.ea_cons (slA _ H12 rfl rfl f12) (K27.ea_cons (slB _ H12 rfl rfl f12) (K27.ea_cons (e_int (ev_var rfl)) K27.ea_nil))) ⟨_, _, k, rfl, by rw [← List.map_append, List.take_append_drop]; exact hRk⟩) fun v12 H13 e13 r12 => ?_
    have f13 := f12.trans e13
    have hpl := stD_plq (is := R.getD k []) (by rw [hsk.1]; omega)
    refine b_skip (b := false) (Ex.refl H13) (et_not (a := true) (et_B (ev_bl (e_call (ds := [stD (R.getD k []), stD (R.getD k [])]) (d := .bool true) (K27.ea_cons (e_var rfl r12) (K27.ea_cons (e_ixL (e_var rfl (r7.mono f13)) (ev_var rfl) (atI_nat hRk)) K27.ea_nil)) ⟨_, _, rfl, hpl.1, hpl.1, by omega, by rw [smF_refl _ hpl.1]⟩)))) rfl fun H14 e14 => ?_
    -- turn
    refine b_asg (v := .int ((k + 1 - b : Nat) : Int)) e14 (ev_is (ev_max2 ev_c (ev_op (ev_op (ev_var rfl) ev_c rv_I0) (ev_var rfl) rv_I0)) (congrArg V.int ?_)) fun H15 e15 => ?_
    · split <;> omega
    have f15 := f13.trans e15
    show tSeq _ _ _ [some v0, some v1, some v2, some v3, some (.int (b : Int)), some (.int (n : Int)), some (.int g), some v7, some v8, some v9, some v10, some (.int (k : Int)), some v12, some (.int ((k + 1 - b : Nat) : Int)), o14, o15, o16, o17] H15
    obtain ⟨R1, R2, x1, x2, x3, x4, x5, x6⟩ := rest_plain N R hbn hkR
    have hR1 : ∀ is ∈ R1 ++ R2, StOk N is := fun is his => hRst is (x5 is his)
    -- expected
    refine b_asgD (d := .tuple [.list (R1.map stD), .list (R2.map stD)]) (Ex.refl H15) (e_is (e_tup (K27.ea_cons (e_slL (lo := some ((k + 1 : Nat) : Int)) (hi := some (b : Int)) (e_var rfl (r7.mono f15)) (eo_some (ev_op (ev_var rfl) ev_c rv_I0)) (eo_some (ev_var rfl))) (K27.ea_cons (e_cat (e_slL (lo := some ((b + (k + 1 - b) : Nat) : Int)) (e_var rfl (r7.mono f15)) (eo_some (ev_op (ev_var rfl) (ev_var rfl) rv_I0)) eo_none) (e_slL (lo := some (b : Int)) (hi := some ((b + (k + 1 - b) : Nat) : Int)) (e_var rfl (r7.mono f15)) (eo_some (ev_var rfl)) (eo_some (ev_op (ev_var rfl) (ev_var rfl) rv_I0))) ?_) K27.ea_nil)) (by simp)) ?_) fun v14 H16 e16 r14 => ?_
    · rw [cut_from, cut_mid, List.length_drop, List.length_drop, List.length_take, List.length_map]
      omega
    · rw [cut_mid, cut_from, cut_mid]
      exact x2
    have f16 := f15.trans e16
    -- rest
    refine b_asgD (d := .tuple [.list (R1.map stD), .list (R2.map stD)]) (Ex.refl H16) (e_call (ds := [.list ((R.take b).map stD), .list ((R.drop b).map stD), .int ((k + 1 : Nat) : Int)]) (K27.ea_cons (slA _ H16 rfl rfl f16) (K27.ea_cons (slB _ H16 rfl rfl f16) (K27.ea_cons (e_int (ev_op (ev_var rfl) ev_c rv_I0)) K27.ea_nil))) ⟨_, _, k + 1, rfl, by rw [List.length_map]; omega, by rw [List.length_map]; omega, x1.symm⟩) fun v15 H17 e17 r15 => ?_
    have f17 := f16.trans e17
    have hpr := rest_plq (R1 := R1) (R2 := R2) (fun is his => by rw [(hR1 is his).1]; omega) (by omega)
    refine b_skip (b := false) (Ex.refl H17) (et_not (a := true) (et_B (ev_bl (e_call (ds := [.tuple [.list (R1.map stD), .list (R2.map stD)], .tuple [.list (R1.map stD), .list (R2.map stD)]]) (d := .bool true) (K27.ea_cons (e_var rfl r15) (K27.ea_cons (e_var rfl (r14.mono e17)) K27.ea_nil)) ⟨_, _, rfl, hpr.1, hpr.1, hpr.2, by rw [smF_refl _ hpr.1]⟩)))) rfl fun H18 e18 => ?_
    -- answer
    have d12 := r12.mono (e15.trans (e16.trans (e17.trans e18)))
    have f18 := f17.trans e18
    refine b_asgD (d := (shr (moved (rOf N (R.getD k [])) f)).d) (Ex.refl H18) (e_call (ds := [f.d, .list (N.map PyData.str), stD (R.getD k [])]) (K27.ea_cons (e_var rfl (c2.mono f18)) (K27.ea_cons (e_listD (e_var rfl (c1.mono f18))) (K27.ea_cons (e_var rfl d12) K27.ea_nil))) ⟨f, _, rfl, hff.1, hff.2, hNd, hsk, rfl⟩) fun v16 H19 e19 r16 => ?_
    have f19 := f18.trans e19
    have hd24 : (shr (moved (rOf N (R.getD k [])) f)).dp ≤ 24 := by
      have h1 := shr_dp (moved (rOf N (R.getD k [])) f)
      have h2 := moved_dp (rOf N (R.getD k [])) f
      have h3 := hff.2
      omega
    have hfi := shr_fine (moved_fine (rOf N (R.getD k [])) hff.1)
    -- good
    refine b_skip (b := false) (Ex.refl H19) (et_not (a := true) (et_B (ev_bl (e_call (ds := [(shr (moved (rOf N (R.getD k [])) f)).d, .list (f.cmps.map Fm.d)]) (K27.ea_cons (e_var rfl r16) (K27.ea_cons (e_var rfl (r10.mono (e12.trans (e13.trans (e15.trans (e16.trans (e17.trans (e18.trans e19)))))))) K27.ea_nil)) ⟨_, N, f.cmps, rfl, hfi, hd24, fun c hc => moved_cmps _ f c (shr_cmps _ c hc), cmps_ok hff.1, by have := cmps_dp f hff.2 (Nat.le_refl _); omega, rfl⟩)))) rfl fun H20 e20 => ?_
    -- later
    have c15 := r15.mono (e18.trans (e19.trans e20))
    have c16 := r16.mono e20
    have f20 := f19.trans e20
    refine b_asgD (K := K) (Ex.refl H20) (EL.e (l_call (ds := [(shr (moved (rOf N (R.getD k [])) f)).d, .list (N.map PyData.str), .list ((R1 ++ R2).map stD), .int (R1.length : Nat)]) (K27.ea_cons (e_var rfl c16) (K27.ea_cons (e_var rfl (c1.mono f20)) (K27.ea_cons (e_is (e_cat (e_ixT (e_var rfl c15) ev_c at0) (e_ixT (e_var rfl c15) ev_c at1) ?_) (by rw [List.map_append])) (K27.ea_cons (e_int (ev_is (ev_lenD (.inl (e_ixT (e_var rfl c15) ev_c at0))) (by rw [List.length_map]))) K27.ea_nil)))) ⟨_, R1 ++ R2, R1.length, rfl, hfi, hd24, hR1, x3, by omega, rfl⟩)) fun v17 H21 e21 r17 => ?_
    · rw [List.length_map, List.length_map]
      rw [List.length_append] at x4
      omega
    have f21 := f20.trans e21
    have key := law_plain (ρ := fun p => rOf N (R.getD p [])) hbn hkR f x6
    have hlast : (blD R.length (tr R.length b (fun p => rOf N (R.getD p [])) f))[k]? = some (.bool (tr R.length b (fun p => rOf N (R.getD p [])) f k)) := blD_at hkR
    refine b_no1 (b := false) (Ex.refl H21) (et_test (ev_is (ev_op (ev_bl (e_ixL (e_var rfl r17) ev_c (atI_nat (j := 0) (blD_at (p := 0) (by omega))))) (ev_bl (e_ixL (e_var rfl (r9.mono (e11.trans (e12.trans (e13.trans (e15.trans (e16.trans (e17.trans (e18.trans (e19.trans (e20.trans e21))))))))))) (ev_var rfl) (atI_nat hlast))) (rv_ne rfl)) (congrArg V.bl ?_))) rfl fun H22 e22 => ?_
    · rw [key, decide_eq_true rfl] <;> rfl
    · exact ⟨⟨_, _, _, _, _, _, _, rfl⟩, e12.trans (e13.trans (e15.trans (e16.trans (e17.trans (e18.trans (e19.trans (e20.trans (e21.trans e22))))))))⟩
  · rintro σ' H12 ⟨⟨o11, o12, o13, o14, o15, o16, o17, rfl⟩, e12⟩
    exact b_ret (Ex.refl H12) (e_bl ev_c) fun v H13 e13 => q v H13 (e07.trans ((e711.trans e12).trans e13))
end
end K27

/-! K27: the end: what the program's top has written, all promises joined, the walk. -/
namespace K27
open PySem PySem.Spec PyProof.Rows L2 Evl
section
variable {K : PySem.W.Frag} {h : Heap} {mg : Str → Option Value}
abbrev HB (x : Str) (st : Stmt) (ps : List Str) : Prop := ∀ (kV doc pm : Value) (an : Option Addr) (cdv ct : Value) (us : List Value), us.length = ps.length → bindArgs (PySem.W.fnOf x x (defArgs st) (defBody st) (defScope st) .none kV doc pm an cdv ct) ⟨us, []⟩ = pure (ps.zip us)
theorem def_mk {x : String} {st : Stmt} {ps : List Str} {f : Addr} {oc : Value} {od an : Option Addr} {osl : Array (Option Value)} {kV doc pm cdv ct : Value} (X : K.In h) (G : h.Ns mainGlobals mg) (hb : HB x st ps) (a : PySem.W.nsIn K mainGlobals x = some (some (.ref f)))
    (l : K.lookup f = some ⟨oc, od, .func (PySem.W.fnOf x x (defArgs st) (defBody st) (defScope st) .none kV doc pm an cdv ct), osl⟩) (c : PySem.W.codeIn K cdv x = true) (k : PySem.W.keepIn K (.ref f) = true) : Def K mg x st ps :=
  ⟨f, _, fun_mk (st := st) l c k, PySem.W.mg_of X G a, (fun_mk (st := st) l c k).binds hb⟩
theorem defM_mk {C : Addr} {x qual : Str} {st : Stmt} {ps : List Str} {f : Addr} {oc : Value} {od an : Option Addr} {osl : Array (Option Value)} {kV doc pm cdv ct : Value} (hb : ∀ (kV doc pm : Value) (an : Option Addr) (cdv ct : Value) (us : List Value), us.length = ps.length → bindArgs (PySem.W.fnOf x qual (defArgs st) (defBody st) (defScope st) .none kV doc pm an cdv ct) ⟨us, []⟩ = pure (ps.zip us)) (a : PySem.W.findIn K (.ref C) x = some (some (.ref f))) (i : PySem.W.isFn K (.ref f) = true)
    (l : K.lookup f = some ⟨oc, od, .func (PySem.W.fnOf x qual (defArgs st) (defBody st) (defScope st) .none kV doc pm an cdv ct), osl⟩) (c : PySem.W.codeIn K cdv qual = true) (k : PySem.W.keepIn K (.ref f) = true) : DefM K C x qual st ps :=
  ⟨f, _, fun_mk (st := st) l c k, ⟨a, i, k⟩, (fun_mk (st := st) l c k).binds hb⟩
/-- a tuple of texts of the module -/
theorem cst_mk {x : String} {xs : List Str} {f : Addr} {od : Option Addr} {its : Array Value} {n : Nat} {sl : Array (Option Value)} (X : K.In h) (G : h.Ns mainGlobals mg) (a : PySem.W.nsIn K mainGlobals x = some (some (.ref f))) (l : K.lookup f = some ⟨.type "tuple", od, .seq its n, sl⟩) (v : Vals (xs.map V.str) its.toList) (z : its.size ≤ 100000) : Cst K mg x (.tuple (xs.map PyData.str)) :=
  ⟨f, PySem.W.mg_of X G a, fun _ => .tup (.inr ⟨_, its, n, l, rfl, rfl, sz_of z, v⟩) (DaAll.ofStrs xs)⟩
theorem blt_mk {x : Str} (X : K.In h) (G : h.Ns mainGlobals mg) (a : PySem.W.nsIn K mainGlobals x = some none) : mg x = none := PySem.W.mg_none_of X G a
end
theorem hb_is_constant : HB "is_constant" s_is_constant ["formula"] := fun _ _ _ _ _ _ us hl => match us, hl with | [_], _ => rfl
theorem hb_opposite : HB "opposite" s_opposite ["formula"] := fun _ _ _ _ _ _ us hl => match us, hl with | [_], _ => rfl
theorem hb_shrink_one : HB "shrink_one" s_shrink_one ["word", "part"] := fun _ _ _ _ _ _ us hl => match us, hl with | [_, _], _ => rfl
theorem hb_with_true_first : HB "with_true_first" s_with_true_first ["word", "second"] := fun _ _ _ _ _ _ us hl => match us, hl with | [_, _], _ => rfl
theorem hb_with_false_first : HB "with_false_first" s_with_false_first ["word", "second"] := fun _ _ _ _ _ _ us hl => match us, hl with | [_, _], _ => rfl
theorem hb_with_true_second : HB "with_true_second" s_with_true_second ["word", "first"] := fun _ _ _ _ _ _ us hl => match us, hl with | [_, _], _ => rfl
theorem hb_with_false_second : HB "with_false_second" s_with_false_second ["word", "first"] := fun _ _ _ _ _ _ us hl => match us, hl with | [_, _], _ => rfl
theorem hb_shrink_two : HB "shrink_two" s_shrink_two ["word", "first", "second"] := fun _ _ _ _ _ _ us hl => match us, hl with | [_, _, _], _ => rfl
theorem hb_shrink : HB "shrink" s_shrink ["formula"] := fun _ _ _ _ _ _ us hl => match us, hl with | [_], _ => rfl
theorem hb_parts_of : HB "parts_of" s_parts_of ["tree"] := fun _ _ _ _ _ _ us hl => match us, hl with | [_], _ => rfl
theorem hb_names_in : HB "names_in" s_names_in ["tree"] := fun _ _ _ _ _ _ us hl => match us, hl with | [_], _ => rfl
theorem hb_term_value : HB "term_value" s_term_value ["term", "values"] := fun _ _ _ _ _ _ us hl => match us, hl with | [_, _], _ => rfl
theorem hb_comparison_truth : HB "comparison_truth" s_comparison_truth ["condition", "values"] := fun _ _ _ _ _ _ us hl => match us, hl with | [_, _], _ => rfl
theorem hb_condition_truth : HB "condition_truth" s_condition_truth ["condition", "values"] := fun _ _ _ _ _ _ us hl => match us, hl with | [_, _], _ => rfl
theorem hb_number_rows : HB "number_rows" s_number_rows ["formula"] := fun _ _ _ _ _ _ us hl => match us, hl with | [_], _ => rfl
theorem hb_ask_names : HB "ask_names" s_ask_names ["formula", "names"] := fun _ _ _ _ _ _ us hl => match us, hl with | [_, _], _ => rfl
theorem hb_step_truth : HB "step_truth" s_step_truth ["word", "first", "second", "following"] := fun _ _ _ _ _ _ us hl => match us, hl with | [_, _, _, _], _ => rfl
theorem hb_spread : HB "spread" s_spread ["word", "first", "second", "back"] := fun _ _ _ _ _ _ us hl => match us, hl with | [_, _, _, _], _ => rfl
theorem hb_plain_truth : HB "plain_truth" s_plain_truth ["word", "first", "second"] := fun _ _ _ _ _ _ us hl => match us, hl with | [_, _, _], _ => rfl
theorem hb_row_truths : HB "row_truths" s_row_truths ["word", "first", "second", "back"] := fun _ _ _ _ _ _ us hl => match us, hl with | [_, _, _, _], _ => rfl
theorem hb_truths_along : HB "truths_along" s_truths_along ["formula", "names", "stem", "loop"] := fun _ _ _ _ _ _ us hl => match us, hl with | [_, _, _, _], _ => rfl
theorem hb_constant : HB "constant" s_constant ["bit"] := fun _ _ _ _ _ _ us hl => match us, hl with | [_], _ => rfl
theorem hb_moved_temporal : HB "moved_temporal" s_moved_temporal ["formula", "values"] := fun _ _ _ _ _ _ us hl => match us, hl with | [_, _], _ => rfl
theorem hb_moved : HB "moved" s_moved ["formula", "values"] := fun _ _ _ _ _ _ us hl => match us, hl with | [_, _], _ => rfl
theorem hb_moved_on : HB "moved_on" s_moved_on ["formula", "names", "state"] := fun _ _ _ _ _ _ us hl => match us, hl with | [_, _, _], _ => rfl
theorem hb_state_at : HB "state_at" s_state_at ["stem", "loop", "place"] := fun _ _ _ _ _ _ us hl => match us, hl with | [_, _, _], _ => rfl
theorem hb_suffix : HB "suffix" s_suffix ["stem", "loop", "place"] := fun _ _ _ _ _ _ us hl => match us, hl with | [_, _, _], _ => rfl
theorem hb__law_cell : HB "_law_cell" s__law_cell ["_law_script", "_law_k"] := fun _ _ _ _ _ _ us hl => match us, hl with | [_, _], _ => rfl
theorem hb__law_draws : HB "_law_draws" s__law_draws ["_law_script", "_law_first", "_law_count"] := fun _ _ _ _ _ _ us hl => match us, hl with | [_, _, _], _ => rfl
theorem hb__law_names : HB "_law_names" s__law_names ["_law_cell_here", "_law_many"] := fun _ _ _ _ _ _ us hl => match us, hl with | [_, _], _ => rfl
theorem hb__law_term : HB "_law_term" s__law_term ["_law_draw", "_law_names_here", "_law_great"] := fun _ _ _ _ _ _ us hl => match us, hl with | [_, _, _], _ => rfl
theorem hb__law_leaf : HB "_law_leaf" s__law_leaf ["_law_one", "_law_two", "_law_names_here", "_law_great", "_law_few", "_law_plain"] := fun _ _ _ _ _ _ us hl => match us, hl with | [_, _, _, _, _, _], _ => rfl
theorem hb__law_formula : HB "_law_formula" s__law_formula ["_law_draws_here", "_law_names_here", "_law_great", "_law_few", "_law_plain"] := fun _ _ _ _ _ _ us hl => match us, hl with | [_, _, _, _, _], _ => rfl
theorem hb__law_some : HB "_law_some" s__law_some ["_law_script", "_law_first", "_law_names_here", "_law_many"] := fun _ _ _ _ _ _ us hl => match us, hl with | [_, _, _, _], _ => rfl
theorem hb__law_same : HB "_law_same" s__law_same ["_law_actual", "_law_expected"] := fun _ _ _ _ _ _ us hl => match us, hl with | [_, _], _ => rfl
theorem hb__law_found : HB "_law_found" s__law_found ["_law_tree"] := fun _ _ _ _ _ _ us hl => match us, hl with | [_], _ => rfl
theorem hb__law_good : HB "_law_good" s__law_good ["_law_tree", "_law_allowed"] := fun _ _ _ _ _ _ us hl => match us, hl with | [_, _], _ => rfl
theorem hb__law_value : HB "_law_value" s__law_value ["_law_term_here", "_law_names_here", "_law_state"] := fun _ _ _ _ _ _ us hl => match us, hl with | [_, _, _], _ => rfl
theorem hb__law_holds : HB "_law_holds" s__law_holds ["_law_comparison", "_law_names_here", "_law_state"] := fun _ _ _ _ _ _ us hl => match us, hl with | [_, _, _], _ => rfl
theorem hb__law_after : HB "_law_after" s__law_after ["_law_place", "_law_back", "_law_many"] := fun _ _ _ _ _ _ us hl => match us, hl with | [_, _, _], _ => rfl
theorem hb__law_walk : HB "_law_walk" s__law_walk ["_law_place", "_law_back", "_law_first", "_law_second", "_law_end"] := fun _ _ _ _ _ _ us hl => match us, hl with | [_, _, _, _, _], _ => rfl
theorem hb__law_temporal : HB "_law_temporal" s__law_temporal ["_law_word", "_law_first", "_law_second", "_law_back"] := fun _ _ _ _ _ _ us hl => match us, hl with | [_, _, _, _], _ => rfl
theorem hb__law_along : HB "_law_along" s__law_along ["_law_tree", "_law_names_here", "_law_run", "_law_back"] := fun _ _ _ _ _ _ us hl => match us, hl with | [_, _, _, _], _ => rfl
theorem hb__law_states : HB "_law_states" s__law_states ["_law_draws_here", "_law_many", "_law_names_here", "_law_great"] := fun _ _ _ _ _ _ us hl => match us, hl with | [_, _, _, _], _ => rfl
theorem hb__law_bits : HB "_law_bits" s__law_bits ["_law_actual", "_law_expected"] := fun _ _ _ _ _ _ us hl => match us, hl with | [_, _], _ => rfl
theorem hb__law_lengths : HB "_law_lengths" s__law_lengths ["_law_cell_here"] := fun _ _ _ _ _ _ us hl => match us, hl with | [_], _ => rfl
theorem hb_law : HB "law" s_law ["_law_script"] := fun _ _ _ _ _ _ us hl => match us, hl with | [_], _ => rfl
theorem all_mk {l : PySem.W.OpenLaw} {w : World} {K : PySem.W.Frag} {h : Heap} {mg : Str → Option Value} {fa CB CR f0 : Addr} {oc : Value} {od an : Option Addr} {osl : Array (Option Value)} {kV doc pm cdv ct : Value} (X : K.In h) (G : h.Ns mainGlobals mg) (hfa : mg "law" = some (.ref fa))
    (aL : PySem.W.nsIn K mainGlobals "law" = some (some (.ref f0))) (lL : K.lookup f0 = some ⟨oc, od, .func (PySem.W.fnOf "law" "law" (defArgs s_law) (defBody s_law) (defScope s_law) .none kV doc pm an cdv ct), osl⟩) (cL : PySem.W.codeIn K cdv "law" = true) (kL : PySem.W.keepIn K (.ref f0) = true)
    (Z_len : mg "len" = none)
    (Z_list : mg "list" = none)
    (Z_int : mg "int" = none)
    (Z_min : mg "min" = none)
    (Z_max : mg "max" = none)
    (Z_isinstance : mg "isinstance" = none)
    (Z_tuple : mg "tuple" = none)
    (Z_str : mg "str" = none)
    (Z_bool : mg "bool" = none)
    (Z_range : mg "range" = none)
    (Z_zip : mg "zip" = none)
    (Z_dict : mg "dict" = none)
    (Z_enumerate : mg "enumerate" = none)
    (C_COMPARISONS_shrink : Cst K mg "COMPARISONS_shrink" (.tuple ((["equal", "below", "upto"] : List Str).map PyData.str)))
    (C_TRUE : Cst K mg "TRUE" (.tuple ((["true"] : List Str).map PyData.str)))
    (C_FALSE : Cst K mg "FALSE" (.tuple ((["false"] : List Str).map PyData.str)))
    (C_COMPARISONS_rows : Cst K mg "COMPARISONS_rows" (.tuple ((["equal", "below", "upto"] : List Str).map PyData.str)))
    (C_PLAIN : Cst K mg "PLAIN" (.tuple ((["true", "false", "fact", "not", "and", "or", "implies", "same"] : List Str).map PyData.str)))
    (C_GREATEST : Cst K mg "GREATEST" (.tuple ((["always", "release", "unless"] : List Str).map PyData.str)))
    (C_COMPARISONS_progress : Cst K mg "COMPARISONS_progress" (.tuple ((["equal", "below", "upto"] : List Str).map PyData.str)))
    (D_is_constant : Def K mg "is_constant" s_is_constant ["formula"])
    (D_opposite : Def K mg "opposite" s_opposite ["formula"])
    (D_shrink_one : Def K mg "shrink_one" s_shrink_one ["word", "part"])
    (D_with_true_first : Def K mg "with_true_first" s_with_true_first ["word", "second"])
    (D_with_false_first : Def K mg "with_false_first" s_with_false_first ["word", "second"])
    (D_with_true_second : Def K mg "with_true_second" s_with_true_second ["word", "first"])
    (D_with_false_second : Def K mg "with_false_second" s_with_false_second ["word", "first"])
    (D_shrink_two : Def K mg "shrink_two" s_shrink_two ["word", "first", "second"])
    (D_shrink : Def K mg "shrink" s_shrink ["formula"])
    (D_parts_of : Def K mg "parts_of" s_parts_of ["tree"])
    (D_names_in : Def K mg "names_in" s_names_in ["tree"])
    (D_term_value : Def K mg "term_value" s_term_value ["term", "values"])
    (D_comparison_truth : Def K mg "comparison_truth" s_comparison_truth ["condition", "values"])
    (D_condition_truth : Def K mg "condition_truth" s_condition_truth ["condition", "values"])
    (D_number_rows : Def K mg "number_rows" s_number_rows ["formula"])
    (D_ask_names : Def K mg "ask_names" s_ask_names ["formula", "names"])
    (D_step_truth : Def K mg "step_truth" s_step_truth ["word", "first", "second", "following"])
    (D_spread : Def K mg "spread" s_spread ["word", "first", "second", "back"])
    (D_plain_truth : Def K mg "plain_truth" s_plain_truth ["word", "first", "second"])
    (D_row_truths : Def K mg "row_truths" s_row_truths ["word", "first", "second", "back"])
    (D_truths_along : Def K mg "truths_along" s_truths_along ["formula", "names", "stem", "loop"])
    (D_constant : Def K mg "constant" s_constant ["bit"])
    (D_moved_temporal : Def K mg "moved_temporal" s_moved_temporal ["formula", "values"])
    (D_moved : Def K mg "moved" s_moved ["formula", "values"])
    (D_moved_on : Def K mg "moved_on" s_moved_on ["formula", "names", "state"])
    (D_state_at : Def K mg "state_at" s_state_at ["stem", "loop", "place"])
    (D_suffix : Def K mg "suffix" s_suffix ["stem", "loop", "place"])
    (D__law_cell : Def K mg "_law_cell" s__law_cell ["_law_script", "_law_k"])
    (D__law_draws : Def K mg "_law_draws" s__law_draws ["_law_script", "_law_first", "_law_count"])
    (D__law_names : Def K mg "_law_names" s__law_names ["_law_cell_here", "_law_many"])
    (D__law_term : Def K mg "_law_term" s__law_term ["_law_draw", "_law_names_here", "_law_great"])
    (D__law_leaf : Def K mg "_law_leaf" s__law_leaf ["_law_one", "_law_two", "_law_names_here", "_law_great", "_law_few", "_law_plain"])
    (D__law_formula : Def K mg "_law_formula" s__law_formula ["_law_draws_here", "_law_names_here", "_law_great", "_law_few", "_law_plain"])
    (D__law_some : Def K mg "_law_some" s__law_some ["_law_script", "_law_first", "_law_names_here", "_law_many"])
    (D__law_same : Def K mg "_law_same" s__law_same ["_law_actual", "_law_expected"])
    (D__law_found : Def K mg "_law_found" s__law_found ["_law_tree"])
    (D__law_good : Def K mg "_law_good" s__law_good ["_law_tree", "_law_allowed"])
    (D__law_value : Def K mg "_law_value" s__law_value ["_law_term_here", "_law_names_here", "_law_state"])
    (D__law_holds : Def K mg "_law_holds" s__law_holds ["_law_comparison", "_law_names_here", "_law_state"])
    (D__law_after : Def K mg "_law_after" s__law_after ["_law_place", "_law_back", "_law_many"])
    (D__law_walk : Def K mg "_law_walk" s__law_walk ["_law_place", "_law_back", "_law_first", "_law_second", "_law_end"])
    (D__law_temporal : Def K mg "_law_temporal" s__law_temporal ["_law_word", "_law_first", "_law_second", "_law_back"])
    (D__law_along : Def K mg "_law_along" s__law_along ["_law_tree", "_law_names_here", "_law_run", "_law_back"])
    (D__law_states : Def K mg "_law_states" s__law_states ["_law_draws_here", "_law_many", "_law_names_here", "_law_great"])
    (D__law_bits : Def K mg "_law_bits" s__law_bits ["_law_actual", "_law_expected"])
    (D__law_lengths : Def K mg "_law_lengths" s__law_lengths ["_law_cell_here"])
    (TB : ClsB K mg CB)
    (TR : ClsR K mg CR)
    (D_RowBook___init__ : DefM K CB "__init__" "RowBook.__init__" s_RowBook___init__ ["self"])
    (D_RowBook_put : DefM K CB "put" "RowBook.put" s_RowBook_put ["self", "word", "left", "right"])
    (D_RowBook_put_fact : DefM K CB "put_fact" "RowBook.put_fact" s_RowBook_put_fact ["self", "comparison"])
    (D_RowBook_put_formula : DefM K CB "put_formula" "RowBook.put_formula" s_RowBook_put_formula ["self", "formula"])
    (D_Rows___init__ : DefM K CR "__init__" "Rows.__init__" s_Rows___init__ ["self", "facts", "rows"])
    (M_RowBook : PySem.W.makesIn K CB = true)
    (k_RowBook : PySem.W.keepIn K (.ref CB) = true)
    (M_Rows : PySem.W.makesIn K CR = true)
    (k_Rows : PySem.W.keepIn K (.ref CR) = true)
    : ∃ fd : FuncData, (∀ (s : Shared) (v : Value), BindsTo s fd ⟨[v], []⟩ [("_law_script", v)]) ∧ ∀ base : Heap, K.In base → base.Ns mainGlobals mg → FnOk l.prog w K mg base CX0 32 fa fd ["_law_script"] (spR K R_law) := by
  have e := hfa.symm.trans (PySem.W.mg_of X G aL)
  cases e
  have F0 := fun_mk (st := s_law) lL cL kL
  refine ⟨PySem.W.fnOf "law" "law" (defArgs s_law) (defBody s_law) (defScope s_law) .none kV doc pm an cdv ct, fun s v => .of_eq rfl, fun base _ _ => ?_⟩
  have G_is_constant := ok_is_constant (P := l.prog) (w := w) (base := base) D_is_constant
  have G_parts_of := ok_parts_of (P := l.prog) (w := w) (base := base) Z_isinstance Z_tuple D_parts_of
  have G_names_in := ok_names_in G_parts_of D_names_in 16
  have G_step_truth := ok_step_truth (P := l.prog) (w := w) (base := base) D_step_truth
  have G_plain_truth := ok_plain_truth (P := l.prog) (w := w) (base := base) D_plain_truth
  have G_constant := ok_constant (P := l.prog) (w := w) (base := base) D_constant
  have G_spread := ok_spread C_GREATEST Z_len Z_range G_step_truth D_spread
  have G_row_truths := ok_row_truths Z_len Z_zip G_plain_truth G_spread D_row_truths
  have G_state_at := ok_state_at (P := l.prog) (w := w) (base := base) Z_len D_state_at
  have G_suffix := ok_suffix (P := l.prog) (w := w) (base := base) Z_len Z_list D_suffix
  have G_cell := ok_cell (P := l.prog) (w := w) (base := base) Z_len D__law_cell
  have G_draws := ok_draws Z_range Z_int G_cell D__law_draws
  have G_names := ok_names (P := l.prog) (w := w) (base := base) Z_range Z_int D__law_names
  have G_lengths := ok_lengths (P := l.prog) (w := w) (base := base) Z_int D__law_lengths
  have G_term := ok_term (P := l.prog) (w := w) (base := base) Z_int Z_len D__law_term
  have G_leaf := ok_leaf Z_int Z_len G_term D__law_leaf
  have G_formula := ok_formula Z_int Z_len Z_range G_leaf D__law_formula
  have G_some := ok_some Z_int G_cell G_draws G_formula D__law_some
  have G_states := ok_states (P := l.prog) (w := w) (base := base) Z_int Z_len Z_range D__law_states
  have G_same := ok_same (P := l.prog) (w := w) (base := base) Z_isinstance Z_str Z_int Z_bool Z_tuple Z_list Z_len Z_range D__law_same 5
  have G_found := ok_found (P := l.prog) (w := w) (base := base) D__law_found 12
  have G_good := ok_good Z_isinstance Z_tuple Z_str Z_len G_same D__law_good 24
  have G_after := ok_after (P := l.prog) (w := w) (base := base) D__law_after
  have G_walk := ok_walk Z_len Z_range G_after D__law_walk
  have G_bits := ok_bits (P := l.prog) (w := w) (base := base) Z_isinstance Z_list Z_bool Z_len Z_range D__law_bits
  have G_temporal := ok_temporal Z_len Z_range G_walk D__law_temporal
  have G_cond : ∀ N, FnAt l.prog w K mg base 6 "condition_truth" ["condition", "values"] (spR K (R_comparison_truth N)) := fun N => ok_condition_truth (ok_comparison_truth (ok_term_value (N := N) Z_min Z_max D_term_value 3) D_comparison_truth) D_condition_truth
  have G_ask : ∀ N, FnAt l.prog w K mg base 18 "ask_names" ["formula", "names"] (spAsk K N) := fun N => ok_ask_names G_names_in D_ask_names
  have G_along : ∀ N, NamesOk N → FnAt l.prog w K mg base 30 "_law_along" ["_law_tree", "_law_names_here", "_law_run", "_law_back"] (spN K (R_along N 24)) := fun N _ => ok_along Z_len Z_range (ok_holds (ok_value (N := N) Z_min Z_max D__law_value 3) D__law_holds) G_after G_walk G_temporal D__law_along 24
  have G_book := ok_book (P := l.prog) (w := w) (base := base) TB D_RowBook___init__
  have G_rows := ok_rows (P := l.prog) (w := w) (base := base) TR C_PLAIN Z_list Z_enumerate D_Rows___init__
  have G_put := ok_put (P := l.prog) (w := w) (base := base) TB Z_len D_RowBook_put
  have G_num : ∀ N, NamesOk N → FnAt l.prog w K mg base 15 "number_rows" ["formula"] (spNum K CR N) := fun N hN => ok_number_rows TB TR M_RowBook k_RowBook M_Rows k_Rows G_book G_rows (ok_put_formula TB C_COMPARISONS_rows Z_len G_put (ok_put_fact hN TB G_put D_RowBook_put_fact) D_RowBook_put_formula 12) D_number_rows
  have G_told : ∀ N, NamesOk N → FnAt l.prog w K mg base 19 "truths_along" ["formula", "names", "stem", "loop"] (spR K (R_truths_along N)) := fun N hN => ok_truths_along TR Z_len Z_dict Z_zip (G_ask N) (G_num N hN) (G_cond N) G_row_truths D_truths_along
  have G_moved : ∀ N, FnAt l.prog w K mg base 30 "moved" ["formula", "values"] (spR K (R_moved N 12)) := fun N => ok_moved C_COMPARISONS_progress G_constant (G_cond N) D_moved_temporal D_moved 12
  have G_shrink : ∀ N, NamesOk N → FnAt l.prog w K mg base 28 "shrink" ["formula"] (spR K (R_shr N 24)) := fun N hN => by
    have G_opposite := ok_opposite (P := l.prog) (w := w) (base := base) hN C_TRUE C_FALSE D_opposite
    have G_shrink_one := ok_shrink_one G_opposite G_is_constant D_shrink_one
    exact ok_shrink C_COMPARISONS_shrink G_is_constant G_shrink_one (ok_shrink_two hN C_TRUE C_FALSE (ok_with_true_first C_TRUE G_shrink_one D_with_true_first) (ok_with_false_first C_TRUE C_FALSE G_opposite G_shrink_one D_with_false_first) (ok_with_true_second C_TRUE D_with_true_second) (ok_with_false_second C_FALSE D_with_false_second) D_shrink_two) Z_len D_shrink 24 (by decide)
  exact ok_law Z_int Z_len Z_list Z_range Z_max G_cell G_names G_some G_lengths G_draws G_states G_along G_told G_bits G_found G_state_at G_same G_suffix (fun N hN => ok_moved_on Z_dict Z_zip (G_ask N) (G_moved N) (G_shrink N hN) D_moved_on) G_good F0
theorem walk {l : PySem.W.OpenLaw} {q : Program} {loose : List Str} {XP : (Str → Option Value) → Heap → Prop} {YP : World → Heap → Prop} {d : DefRec} {K : Params → PySem.W.Frag} (hn : l.most = some 63) (hdf : d.params.defaults = [])
    (hY : ∀ (w : World) (h : Heap), YP w h → (K w.params).In h)
    (F : ∀ (w : World) (mg : Str → Option Value) (fa : Addr) (h : Heap), (K w.params).In h → h.Ns mainGlobals mg → mg d.name = some (.ref fa) →
      ∃ fd : FuncData, (∀ (s : Shared) (u : Value), BindsTo s fd ⟨[u], []⟩ [("_law_script", u)]) ∧ ∀ base : Heap, (K w.params).In base → base.Ns mainGlobals mg → FnOk l.prog w (K w.params) mg base CX0 32 fa fd ["_law_script"] (spR (K w.params) R_law)) :
    PySem.W.WalkO q loose XP YP l.row.toRowW d [] (fun f vs => PySem.call f vs) :=
  L2.walk_of (n := 63) (k := 32) (x := "_law_script") (CX := fun _ => CX0) (sp := fun w => spR (K w.params) R_law) hn (by decide) hdf ⟨rfl, by decide, by decide⟩ hY F (fun _ _ a ns _ _ hS => ⟨[scrD ns], .bool true, .cons (.mkScr hS) .nil, ⟨ns, rfl, rfl⟩, fun v _ _ r => r.bl_inv⟩) fun _ _ _ _ _ z => z
end K27

open PySem PySem.W PyProof.Rows
set_option maxRecDepth 100000 in
set_option maxHeartbeats 0 in
theorem PySem.Challenge.cw_lassoproof_k27_whole_moved_on_everywhere_holds : PySem.Challenge.rw_lassoproof_k27_whole_moved_on_everywhere.Holds := by
  w_on; o_law; k_head; (case hw => w_witness2)
  k_fill
  refine K27.walk (l := PySem.Challenge.rw_lassoproof_k27_whole_moved_on_everywhere) rfl rfl (fun w h Y => PySem.W.kIn_of Y) ?F
  case F =>
    intro w mg fa h KX G hmg
    refine' K27.all_mk KX G hmg ?aL ?lL ?cL ?kL ?Z_len ?Z_list ?Z_int ?Z_min ?Z_max ?Z_isinstance ?Z_tuple ?Z_str ?Z_bool ?Z_range ?Z_zip ?Z_dict ?Z_enumerate ?C_COMPARISONS_shrink ?C_TRUE ?C_FALSE ?C_COMPARISONS_rows ?C_PLAIN ?C_GREATEST ?C_COMPARISONS_progress ?D_is_constant ?D_opposite ?D_shrink_one ?D_with_true_first ?D_with_false_first ?D_with_true_second ?D_with_false_second ?D_shrink_two ?D_shrink ?D_parts_of ?D_names_in ?D_term_value ?D_comparison_truth ?D_condition_truth ?D_number_rows ?D_ask_names ?D_step_truth ?D_spread ?D_plain_truth ?D_row_truths ?D_truths_along ?D_constant ?D_moved_temporal ?D_moved ?D_moved_on ?D_state_at ?D_suffix ?D__law_cell ?D__law_draws ?D__law_names ?D__law_term ?D__law_leaf ?D__law_formula ?D__law_some ?D__law_same ?D__law_found ?D__law_good ?D__law_value ?D__law_holds ?D__law_after ?D__law_walk ?D__law_temporal ?D__law_along ?D__law_states ?D__law_bits ?D__law_lengths ?TB ?TR ?D_RowBook___init__ ?D_RowBook_put ?D_RowBook_put_fact ?D_RowBook_put_formula ?D_Rows___init__ ?M_RowBook ?k_RowBook ?M_Rows ?k_Rows
    (case aL => k_is); (case lL => k_is); (case cL => k_is); (case kL => k_is)
    (case Z_len => refine' K27.blt_mk KX G ?a; (case a => k_is))
    (case Z_list => refine' K27.blt_mk KX G ?a; (case a => k_is))
    (case Z_int => refine' K27.blt_mk KX G ?a; (case a => k_is))
    (case Z_min => refine' K27.blt_mk KX G ?a; (case a => k_is))
    (case Z_max => refine' K27.blt_mk KX G ?a; (case a => k_is))
    (case Z_isinstance => refine' K27.blt_mk KX G ?a; (case a => k_is))
    (case Z_tuple => refine' K27.blt_mk KX G ?a; (case a => k_is))
    (case Z_str => refine' K27.blt_mk KX G ?a; (case a => k_is))
    (case Z_bool => refine' K27.blt_mk KX G ?a; (case a => k_is))
    (case Z_range => refine' K27.blt_mk KX G ?a; (case a => k_is))
    (case Z_zip => refine' K27.blt_mk KX G ?a; (case a => k_is))
    (case Z_dict => refine' K27.blt_mk KX G ?a; (case a => k_is))
    (case Z_enumerate => refine' K27.blt_mk KX G ?a; (case a => k_is))
    (case C_COMPARISONS_shrink => refine' K27.cst_mk KX G ?a ?l ?v ?z; (case a => k_is); (case l => k_is); (case v => exact .cons ⟨_, rfl⟩ (.cons ⟨_, rfl⟩ (.cons ⟨_, rfl⟩ (.nil)))); (case z => decide))
    (case C_TRUE => refine' K27.cst_mk KX G ?a ?l ?v ?z; (case a => k_is); (case l => k_is); (case v => exact .cons ⟨_, rfl⟩ (.nil)); (case z => decide))
    (case C_FALSE => refine' K27.cst_mk KX G ?a ?l ?v ?z; (case a => k_is); (case l => k_is); (case v => exact .cons ⟨_, rfl⟩ (.nil)); (case z => decide))
    (case C_COMPARISONS_rows => refine' K27.cst_mk KX G ?a ?l ?v ?z; (case a => k_is); (case l => k_is); (case v => exact .cons ⟨_, rfl⟩ (.cons ⟨_, rfl⟩ (.cons ⟨_, rfl⟩ (.nil)))); (case z => decide))
    (case C_PLAIN => refine' K27.cst_mk KX G ?a ?l ?v ?z; (case a => k_is); (case l => k_is); (case v => exact .cons ⟨_, rfl⟩ (.cons ⟨_, rfl⟩ (.cons ⟨_, rfl⟩ (.cons ⟨_, rfl⟩ (.cons ⟨_, rfl⟩ (.cons ⟨_, rfl⟩ (.cons ⟨_, rfl⟩ (.cons ⟨_, rfl⟩ (.nil))))))))); (case z => decide))
    (case C_GREATEST => refine' K27.cst_mk KX G ?a ?l ?v ?z; (case a => k_is); (case l => k_is); (case v => exact .cons ⟨_, rfl⟩ (.cons ⟨_, rfl⟩ (.cons ⟨_, rfl⟩ (.nil)))); (case z => decide))
    (case C_COMPARISONS_progress => refine' K27.cst_mk KX G ?a ?l ?v ?z; (case a => k_is); (case l => k_is); (case v => exact .cons ⟨_, rfl⟩ (.cons ⟨_, rfl⟩ (.cons ⟨_, rfl⟩ (.nil)))); (case z => decide))
    (case D_is_constant => refine' K27.def_mk KX G K27.hb_is_constant ?a ?l ?c ?k; (case a => k_is); (case l => k_is); (case c => k_is); (case k => k_is))
    (case D_opposite => refine' K27.def_mk KX G K27.hb_opposite ?a ?l ?c ?k; (case a => k_is); (case l => k_is); (case c => k_is); (case k => k_is))
    (case D_shrink_one => refine' K27.def_mk KX G K27.hb_shrink_one ?a ?l ?c ?k; (case a => k_is); (case l => k_is); (case c => k_is); (case k => k_is))
    (case D_with_true_first => refine' K27.def_mk KX G K27.hb_with_true_first ?a ?l ?c ?k; (case a => k_is); (case l => k_is); (case c => k_is); (case k => k_is))
    (case D_with_false_first => refine' K27.def_mk KX G K27.hb_with_false_first ?a ?l ?c ?k; (case a => k_is); (case l => k_is); (case c => k_is); (case k => k_is))
    (case D_with_true_second => refine' K27.def_mk KX G K27.hb_with_true_second ?a ?l ?c ?k; (case a => k_is); (case l => k_is); (case c => k_is); (case k => k_is))
    (case D_with_false_second => refine' K27.def_mk KX G K27.hb_with_false_second ?a ?l ?c ?k; (case a => k_is); (case l => k_is); (case c => k_is); (case k => k_is))
    (case D_shrink_two => refine' K27.def_mk KX G K27.hb_shrink_two ?a ?l ?c ?k; (case a => k_is); (case l => k_is); (case c => k_is); (case k => k_is))
    (case D_shrink => refine' K27.def_mk KX G K27.hb_shrink ?a ?l ?c ?k; (case a => k_is); (case l => k_is); (case c => k_is); (case k => k_is))
    (case D_parts_of => refine' K27.def_mk KX G K27.hb_parts_of ?a ?l ?c ?k; (case a => k_is); (case l => k_is); (case c => k_is); (case k => k_is))
    (case D_names_in => refine' K27.def_mk KX G K27.hb_names_in ?a ?l ?c ?k; (case a => k_is); (case l => k_is); (case c => k_is); (case k => k_is))
    (case D_term_value => refine' K27.def_mk KX G K27.hb_term_value ?a ?l ?c ?k; (case a => k_is); (case l => k_is); (case c => k_is); (case k => k_is))
    (case D_comparison_truth => refine' K27.def_mk KX G K27.hb_comparison_truth ?a ?l ?c ?k; (case a => k_is); (case l => k_is); (case c => k_is); (case k => k_is))
    (case D_condition_truth => refine' K27.def_mk KX G K27.hb_condition_truth ?a ?l ?c ?k; (case a => k_is); (case l => k_is); (case c => k_is); (case k => k_is))
    (case D_number_rows => refine' K27.def_mk KX G K27.hb_number_rows ?a ?l ?c ?k; (case a => k_is); (case l => k_is); (case c => k_is); (case k => k_is))
    (case D_ask_names => refine' K27.def_mk KX G K27.hb_ask_names ?a ?l ?c ?k; (case a => k_is); (case l => k_is); (case c => k_is); (case k => k_is))
    (case D_step_truth => refine' K27.def_mk KX G K27.hb_step_truth ?a ?l ?c ?k; (case a => k_is); (case l => k_is); (case c => k_is); (case k => k_is))
    (case D_spread => refine' K27.def_mk KX G K27.hb_spread ?a ?l ?c ?k; (case a => k_is); (case l => k_is); (case c => k_is); (case k => k_is))
    (case D_plain_truth => refine' K27.def_mk KX G K27.hb_plain_truth ?a ?l ?c ?k; (case a => k_is); (case l => k_is); (case c => k_is); (case k => k_is))
    (case D_row_truths => refine' K27.def_mk KX G K27.hb_row_truths ?a ?l ?c ?k; (case a => k_is); (case l => k_is); (case c => k_is); (case k => k_is))
    (case D_truths_along => refine' K27.def_mk KX G K27.hb_truths_along ?a ?l ?c ?k; (case a => k_is); (case l => k_is); (case c => k_is); (case k => k_is))
    (case D_constant => refine' K27.def_mk KX G K27.hb_constant ?a ?l ?c ?k; (case a => k_is); (case l => k_is); (case c => k_is); (case k => k_is))
    (case D_moved_temporal => refine' K27.def_mk KX G K27.hb_moved_temporal ?a ?l ?c ?k; (case a => k_is); (case l => k_is); (case c => k_is); (case k => k_is))
    (case D_moved => refine' K27.def_mk KX G K27.hb_moved ?a ?l ?c ?k; (case a => k_is); (case l => k_is); (case c => k_is); (case k => k_is))
    (case D_moved_on => refine' K27.def_mk KX G K27.hb_moved_on ?a ?l ?c ?k; (case a => k_is); (case l => k_is); (case c => k_is); (case k => k_is))
    (case D_state_at => refine' K27.def_mk KX G K27.hb_state_at ?a ?l ?c ?k; (case a => k_is); (case l => k_is); (case c => k_is); (case k => k_is))
    (case D_suffix => refine' K27.def_mk KX G K27.hb_suffix ?a ?l ?c ?k; (case a => k_is); (case l => k_is); (case c => k_is); (case k => k_is))
    (case D__law_cell => refine' K27.def_mk KX G K27.hb__law_cell ?a ?l ?c ?k; (case a => k_is); (case l => k_is); (case c => k_is); (case k => k_is))
    (case D__law_draws => refine' K27.def_mk KX G K27.hb__law_draws ?a ?l ?c ?k; (case a => k_is); (case l => k_is); (case c => k_is); (case k => k_is))
    (case D__law_names => refine' K27.def_mk KX G K27.hb__law_names ?a ?l ?c ?k; (case a => k_is); (case l => k_is); (case c => k_is); (case k => k_is))
    (case D__law_term => refine' K27.def_mk KX G K27.hb__law_term ?a ?l ?c ?k; (case a => k_is); (case l => k_is); (case c => k_is); (case k => k_is))
    (case D__law_leaf => refine' K27.def_mk KX G K27.hb__law_leaf ?a ?l ?c ?k; (case a => k_is); (case l => k_is); (case c => k_is); (case k => k_is))
    (case D__law_formula => refine' K27.def_mk KX G K27.hb__law_formula ?a ?l ?c ?k; (case a => k_is); (case l => k_is); (case c => k_is); (case k => k_is))
    (case D__law_some => refine' K27.def_mk KX G K27.hb__law_some ?a ?l ?c ?k; (case a => k_is); (case l => k_is); (case c => k_is); (case k => k_is))
    (case D__law_same => refine' K27.def_mk KX G K27.hb__law_same ?a ?l ?c ?k; (case a => k_is); (case l => k_is); (case c => k_is); (case k => k_is))
    (case D__law_found => refine' K27.def_mk KX G K27.hb__law_found ?a ?l ?c ?k; (case a => k_is); (case l => k_is); (case c => k_is); (case k => k_is))
    (case D__law_good => refine' K27.def_mk KX G K27.hb__law_good ?a ?l ?c ?k; (case a => k_is); (case l => k_is); (case c => k_is); (case k => k_is))
    (case D__law_value => refine' K27.def_mk KX G K27.hb__law_value ?a ?l ?c ?k; (case a => k_is); (case l => k_is); (case c => k_is); (case k => k_is))
    (case D__law_holds => refine' K27.def_mk KX G K27.hb__law_holds ?a ?l ?c ?k; (case a => k_is); (case l => k_is); (case c => k_is); (case k => k_is))
    (case D__law_after => refine' K27.def_mk KX G K27.hb__law_after ?a ?l ?c ?k; (case a => k_is); (case l => k_is); (case c => k_is); (case k => k_is))
    (case D__law_walk => refine' K27.def_mk KX G K27.hb__law_walk ?a ?l ?c ?k; (case a => k_is); (case l => k_is); (case c => k_is); (case k => k_is))
    (case D__law_temporal => refine' K27.def_mk KX G K27.hb__law_temporal ?a ?l ?c ?k; (case a => k_is); (case l => k_is); (case c => k_is); (case k => k_is))
    (case D__law_along => refine' K27.def_mk KX G K27.hb__law_along ?a ?l ?c ?k; (case a => k_is); (case l => k_is); (case c => k_is); (case k => k_is))
    (case D__law_states => refine' K27.def_mk KX G K27.hb__law_states ?a ?l ?c ?k; (case a => k_is); (case l => k_is); (case c => k_is); (case k => k_is))
    (case D__law_bits => refine' K27.def_mk KX G K27.hb__law_bits ?a ?l ?c ?k; (case a => k_is); (case l => k_is); (case c => k_is); (case k => k_is))
    (case D__law_lengths => refine' K27.def_mk KX G K27.hb__law_lengths ?a ?l ?c ?k; (case a => k_is); (case l => k_is); (case c => k_is); (case k => k_is))
    (case TB => refine' ⟨⟨?pg, ?hd, ?po, ?sa⟩, ?nF, ?nR, ?nN, PySem.W.mg_of KX G ?mc⟩; (case mc => k_is); (case pg => k_is); (case hd => k_is); (case po => k_is); (case sa => k_is); (case nF => (show PySem.W.findIn _ _ _ = some none); k_is); (case nR => (show PySem.W.findIn _ _ _ = some none); k_is); (case nN => (show PySem.W.findIn _ _ _ = some none); k_is))
    (case TR => refine' ⟨⟨?pg, ?hd, ?po, ?sa⟩, ?nF, ?nR, ?nT, PySem.W.mg_of KX G ?mc⟩; (case mc => k_is); (case pg => k_is); (case hd => k_is); (case po => k_is); (case sa => k_is); (case nF => (show PySem.W.findIn _ _ _ = some none); k_is); (case nR => (show PySem.W.findIn _ _ _ = some none); k_is); (case nT => (show PySem.W.findIn _ _ _ = some none); k_is))
    (case D_RowBook___init__ => refine' K27.defM_mk (fun _ _ _ _ _ _ us hl => match us, hl with | [_], _ => rfl) ?a ?i ?l ?c ?k; (case a => k_is); (case i => k_is); (case l => k_is); (case c => k_is); (case k => k_is))
    (case D_RowBook_put => refine' K27.defM_mk (fun _ _ _ _ _ _ us hl => match us, hl with | [_, _, _, _], _ => rfl) ?a ?i ?l ?c ?k; (case a => k_is); (case i => k_is); (case l => k_is); (case c => k_is); (case k => k_is))
    (case D_RowBook_put_fact => refine' K27.defM_mk (fun _ _ _ _ _ _ us hl => match us, hl with | [_, _], _ => rfl) ?a ?i ?l ?c ?k; (case a => k_is); (case i => k_is); (case l => k_is); (case c => k_is); (case k => k_is))
    (case D_RowBook_put_formula => refine' K27.defM_mk (fun _ _ _ _ _ _ us hl => match us, hl with | [_, _], _ => rfl) ?a ?i ?l ?c ?k; (case a => k_is); (case i => k_is); (case l => k_is); (case c => k_is); (case k => k_is))
    (case D_Rows___init__ => refine' K27.defM_mk (fun _ _ _ _ _ _ us hl => match us, hl with | [_, _, _], _ => rfl) ?a ?i ?l ?c ?k; (case a => k_is); (case i => k_is); (case l => k_is); (case c => k_is); (case k => k_is))
    (case M_RowBook => k_is)
    (case k_RowBook => k_is)
    (case M_Rows => k_is)
    (case k_Rows => k_is)

