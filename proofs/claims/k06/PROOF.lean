import PyProof.Rows.All
import Wide.All
import OpenK.AllK
import Wide.FinOn
import HandS.ForMost
import HandS.ForExc
import HandS.Wide
import HandS.WideBits
import HandS.SortRule
import HandS.Codes
import HandS.IsInst
import HandS.Style
import HandS.SetFor
import HandS.SortInts
import HandS.TupSets
import HandS.ExcIs
import HandS.TryMany
import HandS.StrMore
import HandS.Zip
import HandS.Evl
import HandS.Walk
import HandS.Conv
import PySem.Challenge.RW_spreadrow_k06_written
import HandS.SuiteRaise
set_option Elab.async false
set_option linter.all false
set_option maxRecDepth 100000
set_option maxHeartbeats 4000000
/-! Plain law, part A: potentials of heaps on the line, legal giving (Reach), least action, uniqueness. No program in sight. -/
namespace Spr
/-- how many a place has, by the potential -/
def lap (F : Int → Int) (x : Int) : Int := F (x - 1) + F (x + 1) - 2 * F x
/-- a place gives once -/
def fire (F : Int → Int) (x : Int) : Int → Int := fun p => if p = x then F p + 1 else F p
inductive Reach : (Int → Int) → (Int → Int) → Prop where
  | refl (F : Int → Int) : Reach F F
  | step (F G : Int → Int) (x : Int) : 2 ≤ lap F x → Reach (fire F x) G → Reach F G
def padd (F C : Int → Int) : Int → Int := fun p => F p + C p
theorem Reach.of_eq {F G : Int → Int} (h : ∀ p, F p = G p) : Reach F G := by
  have e : F = G := funext h
  rw [e]
  exact .refl G
theorem Reach.trans {F G H : Int → Int} (a : Reach F G) (b : Reach G H) : Reach F H := by
  induction a with
  | refl F => exact b
  | step F G x h r ih => exact .step F H x h (ih b)
theorem Reach.le {F G : Int → Int} (a : Reach F G) : ∀ p, F p ≤ G p := by
  induction a with
  | refl F => intro p; exact Int.le_refl _
  | step F G x h r ih =>
    intro p
    have q := ih p
    unfold fire at q
    split at q <;> omega
theorem Reach.add {F G : Int → Int} (a : Reach F G) (C : Int → Int) (hC : ∀ x, 0 ≤ lap C x) : Reach (padd F C) (padd G C) := by
  induction a with
  | refl F => exact .refl _
  | step F G x h r ih =>
    refine .step _ _ x ?_ ?_
    · have q := hC x
      unfold lap padd at *
      omega
    · have e : fire (padd F C) x = padd (fire F x) C := by
        funext p
        unfold fire padd
        dsimp only
        split <;> omega
      rw [e]
      exact ih
theorem least {F G H : Int → Int} (a : Reach F G) (hF : ∀ p, F p ≤ H p) (hH : ∀ p, lap H p ≤ 1) : ∀ p, G p ≤ H p := by
  induction a with
  | refl F => exact hF
  | step F G x h r ih =>
    refine ih fun p => ?_
    unfold fire
    split
    · next e =>
      subst e
      have h1 := hF (p - 1)
      have h2 := hF (p + 1)
      have h3 := hF p
      have h4 := hH p
      unfold lap at *
      omega
    · exact hF p
theorem uniq {F G H : Int → Int} (a : Reach F G) (b : Reach F H) (hG : ∀ p, lap G p ≤ 1) (hH : ∀ p, lap H p ≤ 1) : G = H := by
  funext p
  have h1 := least a b.le hH p
  have h2 := least b a.le hG p
  omega
theorem Reach.eq_left {F F' G : Int → Int} (h : ∀ p, F p = F' p) (a : Reach F' G) : Reach F G := (Reach.of_eq h).trans a
theorem Reach.eq_right {F G G' : Int → Int} (a : Reach F G) (h : ∀ p, G p = G' p) : Reach F G' := a.trans (Reach.of_eq h)

/-! ### triangles -/
def tri (m : Int) : Int := m * (m + 1) / 2
theorem tri_two (m : Int) : 2 * tri m = m * (m + 1) := by
  unfold tri
  have h : m % 2 = 0 ∨ m % 2 = 1 := by omega
  have e : (m * (m + 1)) % 2 = 0 := by
    rcases h with h | h
    · rw [Int.mul_emod, h]; simp
    · rw [Int.mul_emod]
      have : (m + 1) % 2 = 0 := by omega
      rw [this]; simp
  omega
theorem tri_succ (m : Int) : tri (m + 1) = tri m + (m + 1) := by
  have h1 := tri_two m
  have h2 := tri_two (m + 1)
  have e : (m + 1) * (m + 1 + 1) = m * (m + 1) + 2 * (m + 1) := by grind
  omega
theorem tri_pred (m : Int) : tri (m - 1) = tri m - m := by
  have h := tri_succ (m - 1)
  rw [Int.sub_add_cancel] at h
  omega
theorem tri_zero : tri 0 = 0 := rfl
/-- the potential of one each at l and at all places above it -/
def up (l p : Int) : Int := if p ≤ l then 0 else tri (p - l)
theorem up_low {l p : Int} (h : p ≤ l) : up l p = 0 := by unfold up; rw [if_pos h]
theorem up_high {l p : Int} (h : l ≤ p) : up l p = tri (p - l) := by
  unfold up
  split
  · have : p - l = 0 := by omega
    rw [this]; rfl
  · rfl
/-- one at x -/
def chip (x p : Int) : Int := if p ≤ x then 0 else p - x
theorem chip_up (x p : Int) : chip x p = up x p - up (x + 1) p := by
  unfold chip
  by_cases h : p ≤ x
  · rw [if_pos h, up_low h, up_low (by omega)]; rfl
  · rw [if_neg h, up_high (by omega), up_high (by omega)]
    have := tri_pred (p - x)
    have e : p - (x + 1) = p - x - 1 := by omega
    rw [e]
    omega
theorem lap_up (l p : Int) : lap (up l) p = if l ≤ p then 1 else 0 := by
  unfold lap
  by_cases h : p + 1 ≤ l
  · rw [up_low h, up_low (by omega), up_low (by omega), if_neg (by omega)]; rfl
  · rw [if_pos (by omega), up_high (l := l) (p := p + 1) (by omega), up_high (l := l) (p := p) (by omega)]
    have e : p + 1 - l = p - l + 1 := by omega
    rw [e, tri_succ]
    by_cases h2 : l < p
    · rw [up_high (by omega)]
      have e2 : p - 1 - l = p - l - 1 := by omega
      rw [e2, tri_pred]
      omega
    · rw [up_low (by omega)]
      have e3 : p - l = 0 := by omega
      rw [e3, tri_zero]
      rfl
/-- one each from l to r -/
def iv (l r p : Int) : Int := up l p - up (r + 1) p
theorem iv_chip (x p : Int) : iv x x p = chip x p := (chip_up x p).symm
theorem lap_iv {l r : Int} (h : l ≤ r + 1) (p : Int) : lap (iv l r) p = if l ≤ p ∧ p ≤ r then 1 else 0 := by
  have e : lap (iv l r) p = lap (up l) p - lap (up (r + 1)) p := by
    unfold lap iv
    omega
  rw [e, lap_up, lap_up]
  by_cases h1 : l ≤ p
  · by_cases h2 : p ≤ r
    · rw [if_pos h1, if_neg (by omega), if_pos ⟨h1, h2⟩]; rfl
    · rw [if_pos h1, if_pos (by omega), if_neg (by omega)]; rfl
  · rw [if_neg h1, if_neg (by omega), if_neg (by omega)]; rfl
theorem lap_chip (x p : Int) : lap (chip x) p = if p = x then 1 else 0 := by
  have e : chip x = iv x x := funext fun p => (iv_chip x p).symm
  rw [e, lap_iv (by omega)]
  by_cases h : p = x
  · rw [if_pos h, if_pos (by omega)]
  · rw [if_neg h, if_neg (by omega)]
theorem lap_padd (F C : Int → Int) (p : Int) : lap (padd F C) p = lap F p + lap C p := by
  unfold lap padd
  omega
theorem chip_cvx (x p : Int) : 0 ≤ lap (chip x) p := by rw [lap_chip]; split <;> omega
theorem iv_cvx {l r : Int} (h : l ≤ r + 1) (p : Int) : 0 ≤ lap (iv l r) p := by rw [lap_iv h]; split <;> omega
theorem padd_cvx {F C : Int → Int} (hF : ∀ p, 0 ≤ lap F p) (hC : ∀ p, 0 ≤ lap C p) (p : Int) : 0 ≤ lap (padd F C) p := by
  rw [lap_padd]
  have := hF p
  have := hC p
  omega
theorem chip_fire (x p : Int) : chip (x - 1) p + chip (x + 1) p = 2 * chip x p + (if p = x then 1 else 0) := by
  unfold chip
  split <;> split <;> split <;> split <;> omega
/-- a full block with one more within it: what it gives way to -/
theorem block : ∀ (n : Nat) (l m x : Int), (m - l + 1).toNat = n → l ≤ x → x ≤ m →
    Reach (padd (iv l m) (chip x)) (fun p => iv (l - 1) (m + 1) p - chip (l + m - x) p) := by
  intro n
  induction n using Nat.strongRecOn with
  | ind n ih =>
    intro l m x hn hl hm
    -- give at x
    refine .step _ _ x ?_ ?_
    · rw [lap_padd, lap_iv (by omega), lap_chip, if_pos ⟨hl, hm⟩, if_pos rfl]
      omega
    -- the left side
    have a1 : Reach (padd (iv l (x - 1)) (chip (x - 1))) (fun p => iv (l - 1) x p - chip l p) := by
      by_cases hx : l = x
      · subst hx
        refine .of_eq fun p => ?_
        unfold padd iv
        rw [chip_up, chip_up, show l - 1 + 1 = l by omega]
        omega
      · have q := ih (x - 1 - l + 1).toNat (by omega) l (x - 1) (x - 1) rfl (by omega) (by omega)
        rw [show x - 1 + 1 = x by omega, show l + (x - 1) - (x - 1) = l by omega] at q
        exact q
    have a2 : Reach (padd (iv (l + 1) m) (chip (x + 1))) (fun p => iv l (m + 1) p - chip (l + m - x) p) := by
      by_cases hx : x = m
      · subst hx
        refine .of_eq fun p => ?_
        unfold padd iv
        rw [chip_up, chip_up, show l + x - x = l by omega]
        omega
      · have q := ih (m - (l + 1) + 1).toNat (by omega) (l + 1) m (x + 1) rfl (by omega) (by omega)
        rw [show l + 1 - 1 = l by omega, show l + 1 + m - (x + 1) = l + m - x by omega] at q
        exact q
    have b1 := a1.add (padd (chip (x + 1)) (iv (x + 1) m)) (padd_cvx (chip_cvx _) (iv_cvx (by omega)))
    have b2 := a2.add (chip (l - 1)) (chip_cvx _)
    refine Reach.eq_left ?_ (b1.trans (Reach.eq_left ?_ (b2.eq_right ?_)))
    · intro p
      have f := chip_fire x p
      unfold fire padd iv
      rw [chip_up x] at *
      rw [show x - 1 + 1 = x by omega]
      split
      · next e => rw [if_pos e] at f; omega
      · next e => rw [if_neg e] at f; omega
    · intro p
      unfold padd iv
      dsimp only
      rw [chip_up l, chip_up (l - 1), show l - 1 + 1 = l by omega]
      omega
    · intro p
      unfold padd iv
      dsimp only
      rw [chip_up (l - 1), show l - 1 + 1 = l by omega]
      omega
end Spr
/-! Plain law, part B: clusters (a stretch with at most one empty place), put together; ends_of. -/
namespace Spr
def cpot (l r : Int) (h : Option Int) (p : Int) : Int := match h with | none => iv l r p | some e => iv l r p - chip e p
def cmass (l r : Int) (h : Option Int) : Int := match h with | none => r - l + 1 | some _ => r - l
def cbal (l r : Int) (h : Option Int) : Int := match h with | none => tri r - tri (l - 1) | some e => tri r - tri (l - 1) - e
def Vc (l r : Int) (h : Option Int) : Prop := l ≤ r ∧ ∀ e, h = some e → l < e ∧ e < r
theorem cpot_some (l r e p : Int) : cpot l r (some e) p = iv l (e - 1) p + iv (e + 1) r p := by
  show iv l r p - chip e p = _
  rw [chip_up]
  unfold iv
  rw [show e - 1 + 1 = e by omega]
  omega
theorem cpot_cvx {l r : Int} {h : Option Int} (V : Vc l r h) (p : Int) : 0 ≤ lap (cpot l r h) p := by
  cases h with
  | none => exact iv_cvx (by have := V.1; omega) p
  | some e =>
    have e1 : cpot l r (some e) = padd (iv l (e - 1)) (iv (e + 1) r) := funext fun p => cpot_some l r e p
    have := V.2 e rfl
    rw [e1]
    exact padd_cvx (iv_cvx (by omega)) (iv_cvx (by omega)) p
/-- one put into a cluster -/
theorem add_in {l r : Int} {h : Option Int} {x : Int} (V : Vc l r h) (hl : l ≤ x) (hr : x ≤ r) :
    ∃ l' r' h', Vc l' r' h' ∧ Reach (padd (cpot l r h) (chip x)) (cpot l' r' h') ∧ cmass l' r' h' = cmass l r h + 1 ∧ cbal l' r' h' = cbal l r h + x ∧ l' ≤ l ∧ r ≤ r' ∧ x + 1 ≤ r' := by
  cases h with
  | none =>
    refine ⟨l - 1, r + 1, some (l + r - x), ⟨by omega, fun e he => ?_⟩, block _ l r x rfl hl hr, ?_, ?_, by omega, by omega, by omega⟩
    · cases he; omega
    · show r + 1 - (l - 1) = r - l + 1 + 1; omega
    · show tri (r + 1) - tri (l - 1 - 1) - (l + r - x) = tri r - tri (l - 1) + x
      rw [tri_succ, tri_pred (l - 1)]; omega
  | some e =>
    have hV := V.2 e rfl
    by_cases hx : x = e
    · subst hx
      refine ⟨l, r, none, ⟨by omega, fun e he => nomatch he⟩, .of_eq fun p => ?_, ?_, ?_, by omega, by omega, by omega⟩
      · show iv l r p - chip x p + chip x p = iv l r p; omega
      · show r - l + 1 = r - l + 1; omega
      · show tri r - tri (l - 1) = tri r - tri (l - 1) - x + x; omega
    · by_cases hx2 : x < e
      · have q := (block _ l (e - 1) x rfl hl (by omega)).add (iv (e + 1) r) (iv_cvx (by omega))
        refine ⟨l - 1, r, some (l + (e - 1) - x), ⟨by omega, fun e' he => ?_⟩, (Reach.eq_left ?_ (q.eq_right ?_)), ?_, ?_, by omega, by omega, by omega⟩
        · cases he; omega
        · intro p
          show cpot l r (some e) p + chip x p = iv l (e - 1) p + chip x p + iv (e + 1) r p
          rw [cpot_some]; omega
        · intro p
          show iv (l - 1) (e - 1 + 1) p - chip (l + (e - 1) - x) p + iv (e + 1) r p = iv (l - 1) r p - chip (l + (e - 1) - x) p
          unfold iv
          rw [show e - 1 + 1 = e by omega]; omega
        · show r - (l - 1) = r - l + 1; omega
        · show tri r - tri (l - 1 - 1) - (l + (e - 1) - x) = tri r - tri (l - 1) - e + x
          rw [tri_pred (l - 1)]; omega
      · have q := (block _ (e + 1) r x rfl (by omega) hr).add (iv l (e - 1)) (iv_cvx (by omega))
        refine ⟨l, r + 1, some (e + 1 + r - x), ⟨by omega, fun e' he => ?_⟩, (Reach.eq_left ?_ (q.eq_right ?_)), ?_, ?_, by omega, by omega, by omega⟩
        · cases he; omega
        · intro p
          show cpot l r (some e) p + chip x p = iv (e + 1) r p + chip x p + iv l (e - 1) p
          rw [cpot_some]; omega
        · intro p
          show iv (e + 1 - 1) (r + 1) p - chip (e + 1 + r - x) p + iv l (e - 1) p = iv l (r + 1) p - chip (e + 1 + r - x) p
          unfold iv
          rw [show e - 1 + 1 = e by omega, show e + 1 - 1 = e by omega]; omega
        · show r + 1 - l = r - l + 1; omega
        · show tri (r + 1) - tri (l - 1) - (e + 1 + r - x) = tri r - tri (l - 1) - e + x
          rw [tri_succ]; omega
/-- one put just behind a cluster -/
theorem add_end {l r : Int} {h : Option Int} (V : Vc l r h) :
    Vc l (r + 1) h ∧ Reach (padd (cpot l r h) (chip (r + 1))) (cpot l (r + 1) h) ∧ cmass l (r + 1) h = cmass l r h + 1 ∧ cbal l (r + 1) h = cbal l r h + (r + 1) := by
  have hp : ∀ p, iv l r p + chip (r + 1) p = iv l (r + 1) p := fun p => by
    rw [chip_up]; unfold iv; omega
  have hV := V.1
  cases h with
  | none =>
    refine ⟨⟨by omega, fun e he => nomatch he⟩, .of_eq hp, ?_, ?_⟩
    · show r + 1 - l + 1 = r - l + 1 + 1; omega
    · show tri (r + 1) - tri (l - 1) = tri r - tri (l - 1) + (r + 1)
      rw [tri_succ]; omega
  | some e =>
    have hE := V.2 e rfl
    refine ⟨⟨by omega, fun e' he => by cases he; omega⟩, .of_eq fun p => ?_, ?_, ?_⟩
    · have := hp p
      show iv l r p - chip e p + chip (r + 1) p = iv l (r + 1) p - chip e p
      omega
    · show r + 1 - l = r - l + 1; omega
    · show tri (r + 1) - tri (l - 1) - e = tri r - tri (l - 1) - e + (r + 1)
      rw [tri_succ]; omega
/-- a stretch put into a cluster -/
theorem add_iv : ∀ (n : Nat) (s t l r : Int) (h : Option Int), (t - s + 1).toNat = n → s ≤ t + 1 → Vc l r h → l ≤ s → s ≤ r + 1 →
    ∃ l' r' h', Vc l' r' h' ∧ Reach (padd (cpot l r h) (iv s t)) (cpot l' r' h') ∧ cmass l' r' h' = cmass l r h + (t - s + 1) ∧ cbal l' r' h' = cbal l r h + (tri t - tri (s - 1)) ∧ l' ≤ l ∧ r ≤ r' ∧ t ≤ r' ∧ (s ≤ r → t + 1 ≤ r') := by
  intro n
  induction n with
  | zero =>
    intro s t l r h hn hst V hl hr
    have e : s = t + 1 := by omega
    subst e
    refine ⟨l, r, h, V, .of_eq fun p => ?_, by omega, ?_, by omega, by omega, by omega, fun _ => by omega⟩
    · unfold padd iv; omega
    · rw [show t + 1 - 1 = t by omega]; omega
  | succ n ih =>
    intro s t l r h hn hst V hl hr
    have split : ∀ p, padd (cpot l r h) (iv s t) p = padd (padd (cpot l r h) (chip s)) (iv (s + 1) t) p := fun p => by
      unfold padd
      rw [chip_up]
      unfold iv
      omega
    have cv := iv_cvx (l := s + 1) (r := t) (by omega)
    have trS : tri s - tri (s - 1) = s := by rw [tri_pred]; omega
    by_cases hs : s ≤ r
    · obtain ⟨l1, r1, h1, V1, R1, m1, b1, e1, e2, e3⟩ := add_in V hl hs
      obtain ⟨l2, r2, h2, V2, R2, m2, b2, e4, e5, e6, e7⟩ := ih (s + 1) t l1 r1 h1 (by omega) (by omega) V1 (by omega) (by omega)
      refine ⟨l2, r2, h2, V2, .eq_left split ((R1.add _ cv).trans R2), by omega, ?_, by omega, by omega, by omega, fun _ => e7 (by omega)⟩
      rw [show s + 1 - 1 = s by omega] at b2
      omega
    · have e : s = r + 1 := by omega
      subst e
      obtain ⟨V1, R1, m1, b1⟩ := add_end V
      obtain ⟨l2, r2, h2, V2, R2, m2, b2, e4, e5, e6, e7⟩ := ih (r + 1 + 1) t l (r + 1) h (by omega) (by omega) V1 (by omega) (by omega)
      refine ⟨l2, r2, h2, V2, .eq_left split ((R1.add _ cv).trans R2), by omega, ?_, by omega, by omega, by omega, fun z => by omega⟩
      rw [show r + 1 + 1 - 1 = r + 1 by omega] at b2
      omega
theorem merge1 {l r a b : Int} {h g : Option Int} (V : Vc l r h) (W : Vc a b g) (h1 : l ≤ a) (h2 : a ≤ r) :
    ∃ l' r' h', Vc l' r' h' ∧ Reach (padd (cpot l r h) (cpot a b g)) (cpot l' r' h') ∧ cmass l' r' h' = cmass l r h + cmass a b g ∧ cbal l' r' h' = cbal l r h + cbal a b g ∧ l' ≤ l ∧ r ≤ r' ∧ b ≤ r' := by
  have hW := W.1
  cases g with
  | none =>
    obtain ⟨l1, r1, h1, V1, R1, m1, b1, e1, e2, e3, _⟩ := add_iv _ a b l r h rfl (by omega) V h1 (by omega)
    refine ⟨l1, r1, h1, V1, R1, ?_, ?_, e1, e2, e3⟩
    · show _ = _ + (b - a + 1); omega
    · show _ = _ + (tri b - tri (a - 1)); omega
  | some e =>
    have hE := W.2 e rfl
    obtain ⟨l1, r1, k1, V1, R1, m1, b1, e1, e2, e3, e4⟩ := add_iv _ a (e - 1) l r h rfl (by omega) V h1 (by omega)
    have e4' := e4 h2
    obtain ⟨l2, r2, k2, V2, R2, m2, b2, f1, f2, f3, _⟩ := add_iv _ (e + 1) b l1 r1 k1 rfl (by omega) V1 (by omega) (by omega)
    refine ⟨l2, r2, k2, V2, ?_, ?_, ?_, by omega, by omega, f3⟩
    · refine .eq_left (fun p => ?_) ((R1.add (iv (e + 1) b) (iv_cvx (by omega))).trans R2)
      show cpot l r h p + cpot a b (some e) p = cpot l r h p + iv a (e - 1) p + iv (e + 1) b p
      rw [cpot_some]; omega
    · show _ = _ + (b - a); omega
    · show _ = _ + (tri b - tri (a - 1) - e)
      rw [show e + 1 - 1 = e by omega] at b2
      rw [tri_pred e] at b1
      omega
/-- two clusters that meet are put together -/
theorem merge2 {l r a b : Int} {h g : Option Int} (V : Vc l r h) (W : Vc a b g) (h1 : a ≤ r) (h2 : l ≤ b) :
    ∃ l' r' h', Vc l' r' h' ∧ Reach (padd (cpot l r h) (cpot a b g)) (cpot l' r' h') ∧ cmass l' r' h' = cmass l r h + cmass a b g ∧ cbal l' r' h' = cbal l r h + cbal a b g ∧ l' ≤ l ∧ l' ≤ a ∧ r ≤ r' ∧ b ≤ r' := by
  by_cases c : l ≤ a
  · obtain ⟨l1, r1, k1, V1, R1, m1, b1, e1, e2, e3⟩ := merge1 V W c h1
    exact ⟨l1, r1, k1, V1, R1, m1, b1, e1, by omega, e2, e3⟩
  · obtain ⟨l1, r1, k1, V1, R1, m1, b1, e1, e2, e3⟩ := merge1 W V (by omega) h2
    refine ⟨l1, r1, k1, V1, .eq_left (fun p => ?_) R1, by omega, by omega, by omega, e1, e3, e2⟩
    unfold padd; omega

/-! ### ends_of -/
def endsOf (n b : Int) : Int × Int × Option Int :=
  if (b - n * (n + 1) / 2) % n = 0 then ((b - n * (n + 1) / 2) / n + 1, (b - n * (n + 1) / 2) / n + n, none)
  else ((b - n * (n + 1) / 2) / n + 1, (b - n * (n + 1) / 2) / n + 1 + n, some ((n + 1) * ((b - n * (n + 1) / 2) / n + 1) + n * (n + 1) / 2 - b))
theorem cmass_pos {l r : Int} {h : Option Int} (V : Vc l r h) : 0 < cmass l r h := by
  have := V.1
  cases h with
  | none => show 0 < r - l + 1; omega
  | some e => have := V.2 e rfl; show 0 < r - l; omega
theorem endsOf_is {l r : Int} {h : Option Int} (V : Vc l r h) : endsOf (cmass l r h) (cbal l r h) = (l, r, h) := by
  have hV := V.1
  cases h with
  | none =>
    show endsOf (r - l + 1) (tri r - tri (l - 1)) = (l, r, none)
    obtain ⟨n, rfl⟩ : ∃ n, r = n + l - 1 := ⟨r - l + 1, by omega⟩
    have hn : 0 < n := by omega
    rw [show n + l - 1 - l + 1 = n by omega]
    have e : tri (n + l - 1) - tri (l - 1) - n * (n + 1) / 2 = n * (l - 1) := by
      have t1 := tri_two (n + l - 1)
      have t2 := tri_two (l - 1)
      have t3 := tri_two n
      unfold tri at t3
      have : (n + l - 1) * (n + l - 1 + 1) - (l - 1) * (l - 1 + 1) - n * (n + 1) = 2 * (n * (l - 1)) := by grind
      omega
    unfold endsOf
    rw [e, Int.mul_emod_right, if_pos rfl, Int.mul_ediv_cancel_left _ (by omega)]
    rw [show l - 1 + 1 = l by omega, show l - 1 + n = n + l - 1 by omega]
  | some e =>
    have hE := V.2 e rfl
    show endsOf (r - l) (tri r - tri (l - 1) - e) = (l, r, some e)
    obtain ⟨n, rfl⟩ : ∃ n, r = n + l := ⟨r - l, by omega⟩
    rw [show n + l - l = n by omega]
    have hn : 0 < n := by omega
    have t1 := tri_two (n + l)
    have t2 := tri_two (l - 1)
    have t3 := tri_two n
    unfold tri at t3
    have e1 : tri (n + l) - tri (l - 1) - e - n * (n + 1) / 2 = (n + l - e) + n * (l - 1) := by
      have : (n + l) * (n + l + 1) - (l - 1) * (l - 1 + 1) - n * (n + 1) = 2 * (n + l + n * (l - 1)) := by grind
      omega
    have e2 : ((n + l - e) + n * (l - 1)) % n = n + l - e := by
      rw [Int.add_mul_emod_self_left, Int.emod_eq_of_lt (by omega) (by omega)]
    have e3 : ((n + l - e) + n * (l - 1)) / n = l - 1 := by
      rw [Int.add_mul_ediv_left _ _ (by omega), Int.ediv_eq_zero_of_lt (by omega) (by omega)]
      omega
    unfold endsOf
    rw [e1, e2, e3, if_neg (by omega), show l - 1 + 1 = l by omega]
    have e4 : (n + 1) * l + n * (n + 1) / 2 - (tri (n + l) - tri (l - 1) - e) = e := by
      have : (n + 1) * l = n * (l - 1) + n + l := by grind
      omega
    rw [e4, show l + n = n + l by omega]
/-- a cluster told by how many and the sum of places -/
def Good (n b : Int) : Prop := ∃ l r h, Vc l r h ∧ n = cmass l r h ∧ b = cbal l r h
theorem iv_pos_count (x : Int) : ∀ (n : Nat), 0 < n → ∃ l r h, Vc l r h ∧ Reach (fun p => n * chip x p) (cpot l r h) ∧ cmass l r h = n ∧ cbal l r h = n * x ∧ l ≤ x ∧ x ≤ r
  | 0, h => by omega
  | 1, _ => ⟨x, x, none, ⟨by omega, fun e he => nomatch he⟩, .of_eq fun p => by show (1 : Int) * chip x p = iv x x p; rw [iv_chip]; omega, by show x - x + 1 = 1; omega, by show tri x - tri (x - 1) = 1 * x; rw [tri_pred]; omega, by omega, by omega⟩
  | n + 2, _ => by
    obtain ⟨l, r, h, V, R, m, b, h1, h2⟩ := iv_pos_count x (n + 1) (by omega)
    obtain ⟨l1, r1, k1, V1, R1, m1, b1, e1, e2, e3⟩ := add_in V h1 h2
    refine ⟨l1, r1, k1, V1, .eq_left (fun p => ?_) ((R.add (chip x) (chip_cvx x)).trans R1), by omega, ?_, by omega, by omega⟩
    · show ((n + 2 : Nat) : Int) * chip x p = ((n + 1 : Nat) : Int) * chip x p + chip x p
      have : ((n + 2 : Nat) : Int) = ((n + 1 : Nat) : Int) + 1 := by omega
      rw [this, Int.add_mul]; omega
    · have : ((n + 2 : Nat) : Int) = ((n + 1 : Nat) : Int) + 1 := by omega
      rw [this, Int.add_mul, b1, b]; omega
/-- a heap alone -/
theorem heap_alone {x c : Int} (hc : 0 < c) : ∃ l r h, Vc l r h ∧ Reach (fun p => c * chip x p) (cpot l r h) ∧ cmass l r h = c ∧ cbal l r h = c * x ∧ l ≤ x ∧ x ≤ r := by
  obtain ⟨n, rfl⟩ : ∃ n : Nat, c = n := ⟨c.toNat, by omega⟩
  exact iv_pos_count x n (by omega)
end Spr
/-! Plain law, part C: the clusters as the program makes them (put together upon a pile), the stretches; that they are what is left. -/
namespace Spr
abbrev I2 := Int × Int
/-! ### order of heaps -/
def leP (a b : I2) : Bool := decide (a.1 < b.1) || (decide (a.1 = b.1) && decide (a.2 ≤ b.2))
theorem leP_iff {a b : I2} : leP a b = true ↔ a.1 < b.1 ∨ (a.1 = b.1 ∧ a.2 ≤ b.2) := by
  unfold leP
  rw [Bool.or_eq_true, Bool.and_eq_true, decide_eq_true_iff, decide_eq_true_iff, decide_eq_true_iff]
def srt (hs : List I2) : List I2 := hs.mergeSort leP
theorem srt_perm (hs : List I2) : (srt hs).Perm hs := List.mergeSort_perm hs leP
theorem srt_sorted (hs : List I2) : (srt hs).Pairwise (fun a b => leP a b = true) :=
  List.pairwise_mergeSort (le := leP) (fun a b c h1 h2 => by rw [leP_iff] at *; omega) (fun a b => by rw [Bool.or_eq_true, leP_iff, leP_iff]; omega) hs
theorem sorted_uniq : ∀ {l m : List I2}, l.Pairwise (fun a b => leP a b = true) → m.Pairwise (fun a b => leP a b = true) → l.Perm m → l = m
  | [], m, _, _, h => (List.Perm.eq_nil h.symm).symm
  | x :: l, [], _, _, h => absurd h.length_eq (by simp)
  | x :: l, y :: m, hl, hm, h => by
    have h1 : leP y x = true := by
      rcases List.mem_cons.mp (h.mem_iff.mp (List.mem_cons_self (a := x) (l := l))) with e | hx
      · rw [e, leP_iff]; omega
      · exact (List.pairwise_cons.mp hm).1 x hx
    have h2 : leP x y = true := by
      rcases List.mem_cons.mp (h.mem_iff.mpr (List.mem_cons_self (a := y) (l := m))) with e | hy
      · rw [e, leP_iff]; omega
      · exact (List.pairwise_cons.mp hl).1 y hy
    have e : x = y := by
      rw [leP_iff] at h1 h2
      exact Prod.ext (by omega) (by omega)
    subst e
    rw [sorted_uniq (List.pairwise_cons.mp hl).2 (List.pairwise_cons.mp hm).2 h.cons_inv]
theorem srt_of {hs l : List I2} (h1 : l.Perm hs) (h2 : l.Pairwise (fun a b => leP a b = true)) : l = srt hs :=
  sorted_uniq h2 (srt_sorted hs) (h1.trans (srt_perm hs).symm)
theorem srt_congr {hs hs' : List I2} (h : hs.Perm hs') : srt hs = srt hs' := srt_of ((srt_perm hs).trans h) (srt_sorted hs)

/-! ### the program's functions -/
def firstOf (c : I2) : Int := (endsOf c.1 c.2).1
def lastOf (c : I2) : Int := (endsOf c.1 c.2).2.1
def emptyOf (c : I2) : Option Int := (endsOf c.1 c.2).2.2
/-- a cluster upon the pile (its top first): put together while it meets the top -/
def absorb : List I2 → Int → Int → List I2
  | [], n, b => [(n, b)]
  | c :: st, n, b => if firstOf (n, b) ≤ lastOf c then absorb st (n + c.1) (b + c.2) else (n, b) :: c :: st
def put (st : List I2) (x : I2) : List I2 := if 0 < x.2 then absorb st x.2 (x.2 * x.1) else st
/-- clusters of heaps that are in order, the last one first -/
def clusS (hs : List I2) : List I2 := hs.foldl put []
def clus (hs : List I2) : List I2 := (clusS (srt hs)).reverse
def parts (c : I2) : List I2 := match emptyOf c with | none => [(firstOf c, lastOf c)] | some e => [(firstOf c, e - 1), (e + 1, lastOf c)]
def joinp (acc : List I2) (p : I2) : List I2 := match acc with | [] => [p] | q :: t => if q.2 + 1 = p.1 then (q.1, p.2) :: t else p :: q :: t
def stretches (hs : List I2) : List I2 := (((clus hs).flatMap parts).foldl joinp []).reverse

/-! ### potentials -/
/-- of heaps -/
def hpot : List I2 → Int → Int
  | [], _ => 0
  | h :: t, p => h.2 * chip h.1 p + hpot t p
/-- of stretches -/
def spot : List I2 → Int → Int
  | [], _ => 0
  | s :: t, p => iv s.1 s.2 p + spot t p
/-- of clusters -/
def kpot (c : I2) (p : Int) : Int := cpot (firstOf c) (lastOf c) (emptyOf c) p
def gpot : List I2 → Int → Int
  | [], _ => 0
  | c :: t, p => kpot c p + gpot t p
theorem hpot_append (a b : List I2) (p : Int) : hpot (a ++ b) p = hpot a p + hpot b p := by
  induction a with
  | nil => show hpot b p = 0 + hpot b p; omega
  | cons x a ih => show x.2 * chip x.1 p + hpot (a ++ b) p = x.2 * chip x.1 p + hpot a p + hpot b p; omega
theorem spot_append (a b : List I2) (p : Int) : spot (a ++ b) p = spot a p + spot b p := by
  induction a with
  | nil => show spot b p = 0 + spot b p; omega
  | cons x a ih => show iv x.1 x.2 p + spot (a ++ b) p = iv x.1 x.2 p + spot a p + spot b p; omega
theorem gpot_append (a b : List I2) (p : Int) : gpot (a ++ b) p = gpot a p + gpot b p := by
  induction a with
  | nil => show gpot b p = 0 + gpot b p; omega
  | cons x a ih => show kpot x p + gpot (a ++ b) p = kpot x p + gpot a p + gpot b p; omega
theorem spot_reverse (a : List I2) (p : Int) : spot a.reverse p = spot a p := by
  induction a with
  | nil => rfl
  | cons x a ih =>
    rw [List.reverse_cons, spot_append, ih]
    show spot a p + (iv x.1 x.2 p + 0) = iv x.1 x.2 p + spot a p
    omega
theorem gpot_reverse (a : List I2) (p : Int) : gpot a.reverse p = gpot a p := by
  induction a with
  | nil => rfl
  | cons x a ih =>
    rw [List.reverse_cons, gpot_append, ih]
    show gpot a p + (kpot x p + 0) = kpot x p + gpot a p
    omega
theorem hpot_perm {a b : List I2} (h : a.Perm b) (p : Int) : hpot a p = hpot b p := by
  induction h with
  | nil => rfl
  | cons x h ih => show _ + hpot _ p = _ + hpot _ p; rw [ih]
  | swap x y l => show _ + (_ + hpot l p) = _ + (_ + hpot l p); omega
  | trans h1 h2 i1 i2 => rw [i1, i2]

/-! ### clusters are good -/
theorem Good.at {c : I2} (g : Good c.1 c.2) : Vc (firstOf c) (lastOf c) (emptyOf c) ∧ c.1 = cmass (firstOf c) (lastOf c) (emptyOf c) ∧ c.2 = cbal (firstOf c) (lastOf c) (emptyOf c) := by
  obtain ⟨l, r, h, V, e1, e2⟩ := g
  have e : endsOf c.1 c.2 = (l, r, h) := by rw [e1, e2]; exact endsOf_is V
  unfold firstOf lastOf emptyOf
  rw [e]
  exact ⟨V, e1, e2⟩
theorem Good.mk {l r : Int} {h : Option Int} (V : Vc l r h) : Good (cmass l r h) (cbal l r h) := ⟨l, r, h, V, rfl, rfl⟩
theorem ends_at {l r : Int} {h : Option Int} (V : Vc l r h) {c : I2} (e1 : c.1 = cmass l r h) (e2 : c.2 = cbal l r h) : Good c.1 c.2 ∧ firstOf c = l ∧ lastOf c = r ∧ emptyOf c = h := by
  have e : endsOf c.1 c.2 = (l, r, h) := by rw [e1, e2]; exact endsOf_is V
  refine ⟨⟨l, r, h, V, e1, e2⟩, ?_, ?_, ?_⟩
  · unfold firstOf; rw [e]
  · unfold lastOf; rw [e]
  · unfold emptyOf; rw [e]
/-- a pile: good clusters, apart from one another, the last one first -/
structure Pile (st : List I2) : Prop where
  good : ∀ c ∈ st, Good c.1 c.2
  apart : st.Pairwise (fun c d => lastOf d < firstOf c)
theorem Pile.tail {c : I2} {st : List I2} (h : Pile (c :: st)) : Pile st := ⟨fun d m => h.good d (List.mem_cons_of_mem _ m), (List.pairwise_cons.mp h.apart).2⟩
theorem Pile.nil : Pile [] := ⟨fun _ m => (nomatch m), .nil⟩
theorem gpot_cvx : ∀ {st : List I2}, Pile st → ∀ p, 0 ≤ lap (gpot st) p
  | [], _, p => by show 0 ≤ (0 : Int) + 0 - 2 * 0; decide
  | c :: st, h, p => by
    have e : gpot (c :: st) = padd (kpot c) (gpot st) := rfl
    rw [e]
    exact padd_cvx (cpot_cvx (h.good c List.mem_cons_self).at.1) (gpot_cvx h.tail) p
theorem absorb_ok : ∀ (st : List I2) (n b : Int), Pile st → Good n b → (∀ c, st.head? = some c → firstOf c ≤ lastOf (n, b)) →
    Pile (absorb st n b) ∧ Reach (padd (gpot st) (kpot (n, b))) (gpot (absorb st n b)) ∧ ∃ c, (absorb st n b).head? = some c ∧ firstOf c ≤ firstOf (n, b)
  | [], n, b, _, g, _ => by
    refine ⟨⟨fun c m => ?_, List.pairwise_singleton _ _⟩, .of_eq fun p => ?_, (n, b), rfl, Int.le_refl _⟩
    · rw [List.mem_singleton.mp m]; exact g
    · show 0 + kpot (n, b) p = kpot (n, b) p + 0; omega
  | c :: st, n, b, P, g, hh => by
    have gc := P.good c List.mem_cons_self
    have V := gc.at
    have W := Good.at (c := (n, b)) g
    have V1 := V.1.1
    have W1 := W.1.1
    have hc := hh c rfl
    unfold absorb
    by_cases q : firstOf (n, b) ≤ lastOf c
    · rw [if_pos q]
      obtain ⟨l1, r1, k1, V2, R2, m2, b2, e1, e2, e3, e4⟩ := merge2 V.1 W.1 q hc
      obtain ⟨g2, f1, f2, f3⟩ := ends_at V2 (c := (n + c.1, b + c.2)) (by have := V.2.1; have := W.2.1; simp only at *; omega) (by have := V.2.2; have := W.2.2; simp only at *; omega)
      have k : kpot (n + c.1, b + c.2) = cpot l1 r1 k1 := by
        unfold kpot
        rw [f1, f2, f3]
      obtain ⟨P3, R3, d, hd, hd2⟩ := absorb_ok st (n + c.1) (b + c.2) P.tail g2 fun d hd => by
        have md : d ∈ st := List.mem_of_mem_head? hd
        have := (List.pairwise_cons.mp P.apart).1 d md
        have := ((P.tail).good d md).at.1.1
        rw [f2]
        omega
      refine ⟨P3, ?_, d, hd, by omega⟩
      rw [k] at R3
      refine .eq_left (fun p => ?_) (((R2.add (gpot st) (gpot_cvx P.tail)).eq_right fun p => ?_).trans R3)
      · show kpot c p + gpot st p + kpot (n, b) p = kpot c p + kpot (n, b) p + gpot st p; omega
      · show cpot l1 r1 k1 p + gpot st p = gpot st p + cpot l1 r1 k1 p; omega
    · rw [if_neg q]
      refine ⟨⟨fun d m => ?_, List.pairwise_cons.mpr ⟨fun d m => ?_, P.apart⟩⟩, .of_eq fun p => ?_, (n, b), rfl, Int.le_refl _⟩
      · rcases List.mem_cons.mp m with e | m
        · rw [e]; exact g
        · exact P.good d m
      · rcases List.mem_cons.mp m with e | m
        · rw [e]; omega
        · have := (List.pairwise_cons.mp P.apart).1 d m
          omega
      · show gpot (c :: st) p + kpot (n, b) p = kpot (n, b) p + gpot (c :: st) p; omega
theorem heap_good {x : I2} (hx : 0 < x.2) : Good x.2 (x.2 * x.1) ∧ Reach (fun p => x.2 * chip x.1 p) (kpot (x.2, x.2 * x.1)) ∧ firstOf (x.2, x.2 * x.1) ≤ x.1 ∧ x.1 ≤ lastOf (x.2, x.2 * x.1) := by
  obtain ⟨l, r, h, V, R, m, b, h1, h2⟩ := heap_alone (x := x.1) hx
  obtain ⟨g, f1, f2, f3⟩ := ends_at V (c := (x.2, x.2 * x.1)) m.symm b.symm
  refine ⟨g, ?_, by omega, by omega⟩
  have k : kpot (x.2, x.2 * x.1) = cpot l r h := by
    unfold kpot
    rw [f1, f2, f3]
  rw [k]
  exact R
theorem foldl_put : ∀ (hs st : List I2) (lo : Int), hs.Pairwise (fun a b => a.1 ≤ b.1) → (∀ h ∈ hs, lo ≤ h.1) → (∀ h ∈ hs, 0 ≤ h.2) → Pile st → (∀ c, st.head? = some c → firstOf c ≤ lo) →
    Pile (hs.foldl put st) ∧ Reach (padd (gpot st) (hpot hs)) (gpot (hs.foldl put st))
  | [], st, lo, _, _, _, P, _ => ⟨P, .of_eq fun p => by show gpot st p + 0 = gpot st p; omega⟩
  | x :: hs, st, lo, hp, hl, h0, P, hh => by
    obtain ⟨p1, p2⟩ := List.pairwise_cons.mp hp
    have hx := hl x List.mem_cons_self
    have hx0 := h0 x List.mem_cons_self
    rw [List.foldl_cons]
    by_cases q : 0 < x.2
    · obtain ⟨g, R, f1, f2⟩ := heap_good q
      obtain ⟨P1, R1, c, hc, hc2⟩ := absorb_ok st x.2 (x.2 * x.1) P g fun c hc => by have := hh c hc; omega
      have e : put st x = absorb st x.2 (x.2 * x.1) := if_pos q
      rw [e]
      obtain ⟨P2, R2⟩ := foldl_put hs _ x.1 p2 (fun h m => p1 h m) (fun h m => h0 h (List.mem_cons_of_mem _ m)) P1 fun d hd => by
        rw [hc] at hd; cases hd; omega
      refine ⟨P2, ?_⟩
      have hcv : ∀ p, 0 ≤ lap (hpot hs) p := by
        intro p
        have : ∀ l : List I2, (∀ h ∈ l, 0 ≤ h.2) → 0 ≤ lap (hpot l) p := by
          intro l
          induction l with
          | nil => intro _; show 0 ≤ (0 : Int) + 0 - 2 * 0; decide
          | cons y l ih =>
            intro hl
            have e : lap (hpot (y :: l)) p = y.2 * lap (chip y.1) p + lap (hpot l) p := by
              show (y.2 * _ + hpot l _) + (y.2 * _ + hpot l _) - 2 * (y.2 * _ + hpot l _) = _
              unfold lap
              rw [Int.mul_sub y.2, Int.mul_add y.2]
              have : y.2 * (2 * chip y.1 p) = 2 * (y.2 * chip y.1 p) := by rw [Int.mul_left_comm]
              omega
            rw [e, lap_chip]
            have := hl y List.mem_cons_self
            have := ih fun h m => hl h (List.mem_cons_of_mem _ m)
            split
            · omega
            · omega
        exact this hs fun h m => h0 h (List.mem_cons_of_mem _ m)
      have R3 := ((R.add (gpot st) (gpot_cvx P)).eq_right (G' := padd (gpot st) (kpot (x.2, x.2 * x.1))) fun p => by
        show kpot _ p + gpot st p = gpot st p + kpot _ p; omega).trans R1
      refine .eq_left (fun p => ?_) ((R3.add (hpot hs) hcv).trans R2)
      show gpot st p + (x.2 * chip x.1 p + hpot hs p) = x.2 * chip x.1 p + gpot st p + hpot hs p
      omega
    · have e : put st x = st := if_neg q
      rw [e]
      obtain ⟨P2, R2⟩ := foldl_put hs st lo p2 (fun h m => hl h (List.mem_cons_of_mem _ m)) (fun h m => h0 h (List.mem_cons_of_mem _ m)) P hh
      refine ⟨P2, .eq_left (fun p => ?_) R2⟩
      have : x.2 = 0 := by omega
      show gpot st p + (x.2 * chip x.1 p + hpot hs p) = gpot st p + hpot hs p
      rw [this, Int.zero_mul]
      omega
theorem clus_ok {hs : List I2} (h0 : ∀ h ∈ hs, 0 ≤ h.2) : Pile (clusS (srt hs)) ∧ Reach (hpot hs) (gpot (clusS (srt hs))) := by
  have sp := srt_sorted hs
  have s1 : (srt hs).Pairwise (fun a b => a.1 ≤ b.1) := sp.imp fun h => by rw [leP_iff] at h; omega
  cases e : srt hs with
  | nil =>
    have : hs = [] := by
      have := srt_perm hs
      rw [e] at this
      exact this.symm.eq_nil
    subst this
    exact ⟨.nil, .refl _⟩
  | cons x t =>
    rw [e] at s1
    have q := foldl_put (x :: t) [] x.1 s1 (fun h m => by
      rcases List.mem_cons.mp m with z | m
      · rw [z]; exact Int.le_refl _
      · exact (List.pairwise_cons.mp s1).1 h m) (fun h m => h0 h ((srt_perm hs).mem_iff.mp (by rw [e]; exact m))) .nil (fun c hc => by cases hc)
    refine ⟨q.1, .eq_left (fun p => ?_) q.2⟩
    rw [← hpot_perm (srt_perm hs) p, e]
    show _ = 0 + hpot (x :: t) p
    omega

/-! ### stretches -/
/-- stretches apart, with a place between -/
structure NF (l : List I2) : Prop where
  le : ∀ s ∈ l, s.1 ≤ s.2
  gap : l.Pairwise (fun a b => a.2 + 1 < b.1)
theorem spot_parts {c : I2} (p : Int) : spot (parts c) p = kpot c p := by
  unfold parts kpot
  cases emptyOf c with
  | none => show iv (firstOf c) (lastOf c) p + 0 = iv (firstOf c) (lastOf c) p; omega
  | some e =>
    rw [cpot_some]
    show iv (firstOf c) (e - 1) p + (iv (e + 1) (lastOf c) p + 0) = _
    omega
theorem joins_ok : ∀ (ps acc : List I2), (∀ s ∈ ps, s.1 ≤ s.2) → ps.Pairwise (fun a b => a.2 < b.1) → (∀ a ∈ acc, a.1 ≤ a.2) → acc.Pairwise (fun a b => b.2 + 1 < a.1) → (∀ a ∈ acc, ∀ s ∈ ps, a.2 < s.1) →
    (∀ a ∈ ps.foldl joinp acc, a.1 ≤ a.2) ∧ (ps.foldl joinp acc).Pairwise (fun a b => b.2 + 1 < a.1) ∧ ∀ p, spot (ps.foldl joinp acc) p = spot acc p + spot ps p
  | [], acc, _, _, h3, h4, _ => ⟨h3, h4, fun p => by show spot acc p = spot acc p + 0; omega⟩
  | s :: ps, acc, h1, h2, h3, h4, h5 => by
    rw [List.foldl_cons]
    obtain ⟨g1, g2⟩ := List.pairwise_cons.mp h2
    have hs := h1 s List.mem_cons_self
    have hps : ∀ q ∈ ps, q.1 ≤ q.2 := fun q m => h1 q (List.mem_cons_of_mem _ m)
    have key : (∀ a ∈ joinp acc s, a.1 ≤ a.2) ∧ (joinp acc s).Pairwise (fun a b => b.2 + 1 < a.1) ∧ (∀ a ∈ joinp acc s, ∀ q ∈ ps, a.2 < q.1) ∧ ∀ p, spot (joinp acc s) p = spot acc p + iv s.1 s.2 p := by
      cases acc with
      | nil =>
        refine ⟨fun a m => ?_, List.pairwise_singleton _ _, fun a m q mq => ?_, fun p => ?_⟩
        · rw [List.mem_singleton.mp m]; exact hs
        · rw [List.mem_singleton.mp m]; exact g1 q mq
        · show iv s.1 s.2 p + 0 = 0 + iv s.1 s.2 p; omega
      | cons q t =>
        have hq := h3 q List.mem_cons_self
        have hqs := h5 q List.mem_cons_self s List.mem_cons_self
        obtain ⟨k1, k2⟩ := List.pairwise_cons.mp h4
        have ht : ∀ a ∈ t, a.1 ≤ a.2 := fun a m => h3 a (List.mem_cons_of_mem _ m)
        by_cases e : q.2 + 1 = s.1
        · have ej : joinp (q :: t) s = (q.1, s.2) :: t := if_pos e
          rw [ej]
          refine ⟨fun a m => ?_, List.pairwise_cons.mpr ⟨fun a m => k1 a m, k2⟩, fun a m r mr => ?_, fun p => ?_⟩
          · rcases List.mem_cons.mp m with z | m
            · rw [z]; show q.1 ≤ s.2; omega
            · exact ht a m
          · rcases List.mem_cons.mp m with z | m
            · rw [z]; exact g1 r mr
            · exact h5 a (List.mem_cons_of_mem _ m) r (List.mem_cons_of_mem _ mr)
          · show iv q.1 s.2 p + spot t p = iv q.1 q.2 p + spot t p + iv s.1 s.2 p
            unfold iv
            rw [e]
            omega
        · have ej : joinp (q :: t) s = s :: q :: t := if_neg e
          rw [ej]
          refine ⟨fun a m => ?_, List.pairwise_cons.mpr ⟨fun a m => ?_, h4⟩, fun a m r mr => ?_, fun p => ?_⟩
          · rcases List.mem_cons.mp m with z | m
            · rw [z]; exact hs
            · exact h3 a m
          · rcases List.mem_cons.mp m with z | m
            · rw [z]; omega
            · have := k1 a m; omega
          · rcases List.mem_cons.mp m with z | m
            · rw [z]; exact g1 r mr
            · exact h5 a m r (List.mem_cons_of_mem _ mr)
          · show iv s.1 s.2 p + spot (q :: t) p = spot (q :: t) p + iv s.1 s.2 p
            omega
    obtain ⟨j1, j2, j3⟩ := joins_ok ps (joinp acc s) hps g2 key.1 key.2.1 key.2.2.1
    refine ⟨j1, j2, fun p => ?_⟩
    rw [j3, key.2.2.2]
    show spot acc p + iv s.1 s.2 p + spot ps p = spot acc p + (iv s.1 s.2 p + spot ps p)
    omega
theorem parts_ok {c : I2} (g : Good c.1 c.2) : (∀ s ∈ parts c, s.1 ≤ s.2 ∧ firstOf c ≤ s.1 ∧ s.2 ≤ lastOf c) ∧ (parts c).Pairwise (fun a b => a.2 < b.1) := by
  have V := g.at.1
  have V1 := V.1
  unfold parts
  cases e : emptyOf c with
  | none =>
    refine ⟨fun s m => ?_, List.pairwise_singleton _ _⟩
    rw [List.mem_singleton.mp m]
    exact ⟨V1, Int.le_refl _, Int.le_refl _⟩
  | some x =>
    have := V.2 x e
    refine ⟨fun s m => ?_, List.pairwise_cons.mpr ⟨fun s m => ?_, List.pairwise_singleton _ _⟩⟩
    · rcases List.mem_cons.mp m with z | m
      · rw [z]; simp only; omega
      · rw [List.mem_singleton.mp m]; simp only; omega
    · rw [List.mem_singleton.mp m]; simp only; omega
theorem flat_ok : ∀ {l : List I2}, (∀ c ∈ l, Good c.1 c.2) → l.Pairwise (fun c d => lastOf c < firstOf d) →
    (∀ s ∈ l.flatMap parts, s.1 ≤ s.2) ∧ (l.flatMap parts).Pairwise (fun a b => a.2 < b.1) ∧ ∀ p, spot (l.flatMap parts) p = gpot l p
  | [], _, _ => ⟨fun _ m => by simp at m, .nil, fun p => rfl⟩
  | c :: l, hg, hp => by
    obtain ⟨p1, p2⟩ := List.pairwise_cons.mp hp
    obtain ⟨i1, i2, i3⟩ := flat_ok (fun d m => hg d (List.mem_cons_of_mem _ m)) p2
    obtain ⟨k1, k2⟩ := parts_ok (hg c List.mem_cons_self)
    rw [List.flatMap_cons]
    refine ⟨fun s m => ?_, List.pairwise_append.mpr ⟨k2, i2, fun a ma b mb => ?_⟩, fun p => ?_⟩
    · rcases List.mem_append.mp m with m | m
      · exact (k1 s m).1
      · exact i1 s m
    · obtain ⟨d, md, mb⟩ := List.mem_flatMap.mp mb
      have := (parts_ok (hg d (List.mem_cons_of_mem _ md))).1 b mb
      have := p1 d md
      have := k1 a ma
      omega
    · rw [spot_append, spot_parts, i3]
      rfl
/-- the stretches are what is left -/
theorem stretches_ok {hs : List I2} (h0 : ∀ h ∈ hs, 0 ≤ h.2) : NF (stretches hs) ∧ Reach (hpot hs) (spot (stretches hs)) := by
  obtain ⟨P, R⟩ := clus_ok h0
  obtain ⟨f1, f2, f3⟩ := flat_ok (l := clus hs) (fun c m => P.good c (List.mem_reverse.mp m)) (List.pairwise_reverse.mpr P.apart)
  obtain ⟨j1, j2, j3⟩ := joins_ok ((clus hs).flatMap parts) [] f1 f2 (fun _ m => nomatch m) .nil (fun _ m => nomatch m)
  refine ⟨⟨fun s m => j1 s (List.mem_reverse.mp m), List.pairwise_reverse.mpr j2⟩, R.eq_right fun p => ?_⟩
  unfold stretches
  rw [spot_reverse, j3, f3]
  unfold clus
  rw [gpot_reverse]
  show _ = 0 + _
  omega
/-! ### what a place has -/
def hasB (l : List I2) (p : Int) : Bool := l.any fun s => decide (s.1 ≤ p) && decide (p ≤ s.2)
theorem hasB_iff {l : List I2} {p : Int} : hasB l p = true ↔ ∃ s ∈ l, s.1 ≤ p ∧ p ≤ s.2 := by
  unfold hasB
  rw [List.any_eq_true]
  constructor
  · rintro ⟨s, m, h⟩
    rw [Bool.and_eq_true, decide_eq_true_iff, decide_eq_true_iff] at h
    exact ⟨s, m, h⟩
  · rintro ⟨s, m, h⟩
    exact ⟨s, m, by rw [Bool.and_eq_true, decide_eq_true_iff, decide_eq_true_iff]; exact h⟩
theorem NF.tail {s : I2} {l : List I2} (h : NF (s :: l)) : NF l := ⟨fun d m => h.le d (List.mem_cons_of_mem _ m), (List.pairwise_cons.mp h.gap).2⟩
theorem lap_spot : ∀ {l : List I2}, NF l → ∀ p, lap (spot l) p = if hasB l p = true then 1 else 0
  | [], _, p => rfl
  | s :: l, h, p => by
    have e : spot (s :: l) = padd (iv s.1 s.2) (spot l) := rfl
    have hs := h.le s List.mem_cons_self
    rw [e, lap_padd, lap_iv (by omega), lap_spot h.tail]
    have g := (List.pairwise_cons.mp h.gap).1
    by_cases a : s.1 ≤ p ∧ p ≤ s.2
    · have b : ¬ hasB l p = true := fun q => by
        obtain ⟨d, md, h1, h2⟩ := hasB_iff.mp q
        have := g d md
        omega
      rw [if_pos a, if_neg b, if_pos (hasB_iff.mpr ⟨s, List.mem_cons_self, a⟩)]
      rfl
    · rw [if_neg a]
      by_cases b : hasB l p = true
      · obtain ⟨d, md, h1⟩ := hasB_iff.mp b
        rw [if_pos b, if_pos (hasB_iff.mpr ⟨d, List.mem_cons_of_mem _ md, h1⟩)]
        rfl
      · rw [if_neg b, if_neg]
        · rfl
        · intro q
          obtain ⟨d, md, h1⟩ := hasB_iff.mp q
          rcases List.mem_cons.mp md with z | md
          · rw [z] at h1; exact a h1
          · exact b (hasB_iff.mpr ⟨d, md, h1⟩)
theorem spot_stable {l : List I2} (h : NF l) (p : Int) : lap (spot l) p ≤ 1 := by
  rw [lap_spot h]
  split <;> omega
/-- stretches apart are told by what places have -/
theorem NF_uniq : ∀ {l m : List I2}, NF l → NF m → (∀ p, hasB l p = hasB m p) → l = m
  | [], [], _, _, _ => rfl
  | [], s :: m, _, hm, h => by
    have := h s.1
    have q : hasB (s :: m) s.1 = true := hasB_iff.mpr ⟨s, List.mem_cons_self, Int.le_refl _, hm.le s List.mem_cons_self⟩
    rw [q] at this
    cases this
  | s :: l, [], hl, _, h => by
    have := h s.1
    have q : hasB (s :: l) s.1 = true := hasB_iff.mpr ⟨s, List.mem_cons_self, Int.le_refl _, hl.le s List.mem_cons_self⟩
    rw [q] at this
    cases this
  | s :: l, t :: m, hl, hm, h => by
    have ls := hl.le s List.mem_cons_self
    have lt := hm.le t List.mem_cons_self
    have gl := (List.pairwise_cons.mp hl.gap).1
    have gm := (List.pairwise_cons.mp hm.gap).1
    have lle := hl.tail.le
    have mle := hm.tail.le
    have in1 : ∀ p, s.1 ≤ p → p ≤ s.2 → ∃ d ∈ t :: m, d.1 ≤ p ∧ p ≤ d.2 := fun p a b => hasB_iff.mp (by rw [← h p]; exact hasB_iff.mpr ⟨s, List.mem_cons_self, a, b⟩)
    have in2 : ∀ p, t.1 ≤ p → p ≤ t.2 → ∃ d ∈ s :: l, d.1 ≤ p ∧ p ≤ d.2 := fun p a b => hasB_iff.mp (by rw [h p]; exact hasB_iff.mpr ⟨t, List.mem_cons_self, a, b⟩)
    have lo1 : ∀ d ∈ t :: m, t.1 ≤ d.1 := fun d md => by
      rcases List.mem_cons.mp md with z | md
      · rw [z]; exact Int.le_refl _
      · have := gm d md; omega
    have lo2 : ∀ d ∈ s :: l, s.1 ≤ d.1 := fun d md => by
      rcases List.mem_cons.mp md with z | md
      · rw [z]; exact Int.le_refl _
      · have := gl d md; omega
    have e1 : s.1 = t.1 := by
      obtain ⟨d, md, h1, h2⟩ := in1 s.1 (Int.le_refl _) ls
      obtain ⟨d', md', h1', h2'⟩ := in2 t.1 (Int.le_refl _) lt
      have := lo1 d md
      have := lo2 d' md'
      omega
    have e2 : s.2 = t.2 := by
      rcases Int.lt_trichotomy s.2 t.2 with q | q | q
      · obtain ⟨d, md, h1, h2⟩ := in2 (s.2 + 1) (by omega) (by omega)
        rcases List.mem_cons.mp md with z | md
        · rw [z] at h2; omega
        · have := gl d md; omega
      · exact q
      · obtain ⟨d, md, h1, h2⟩ := in1 (t.2 + 1) (by omega) (by omega)
        rcases List.mem_cons.mp md with z | md
        · rw [z] at h2; omega
        · have := gm d md; omega
    have e : s = t := Prod.ext e1 e2
    subst e
    have ht : ∀ p, hasB l p = hasB m p := fun p => by
      have := h p
      by_cases a : s.1 ≤ p ∧ p ≤ s.2
      · have b1 : hasB l p = false := by
          cases z : hasB l p with
          | false => rfl
          | true =>
            obtain ⟨d, md, h1, h2⟩ := hasB_iff.mp z
            have := gl d md
            omega
        have b2 : hasB m p = false := by
          cases z : hasB m p with
          | false => rfl
          | true =>
            obtain ⟨d, md, h1, h2⟩ := hasB_iff.mp z
            have := gm d md
            omega
        rw [b1, b2]
      · have c : (decide (s.1 ≤ p) && decide (p ≤ s.2)) = false := by
          rw [← Bool.decide_and]
          exact decide_eq_false a
        have d1 : hasB (s :: l) p = hasB l p := by
          show ((decide (s.1 ≤ p) && decide (p ≤ s.2)) || hasB l p) = _
          rw [c]; rfl
        have d2 : hasB (s :: m) p = hasB m p := by
          show ((decide (s.1 ≤ p) && decide (p ≤ s.2)) || hasB m p) = _
          rw [c]; rfl
        rw [d1, d2] at this
        exact this
    rw [NF_uniq hl.tail hm.tail ht]
theorem NF_pot {l m : List I2} (hl : NF l) (hm : NF m) (h : ∀ p, spot l p = spot m p) : l = m := by
  refine NF_uniq hl hm fun p => ?_
  have a := lap_spot hl p
  have b := lap_spot hm p
  have e : spot l = spot m := funext h
  rw [e, b] at a
  cases h1 : hasB l p <;> cases h2 : hasB m p <;> simp [h1, h2] at a ⊢
/-- heaps that can come to one state come to one end -/
theorem stretches_uniq {hs : List I2} (h0 : ∀ h ∈ hs, 0 ≤ h.2) {m : List I2} (hm : NF m) (R : Reach (hpot hs) (spot m)) : stretches hs = m := by
  obtain ⟨N, R1⟩ := stretches_ok h0
  have := uniq R1 R (spot_stable N) (spot_stable hm)
  exact NF_pot N hm fun p => by rw [this]
theorem stretches_congr {hs hs' : List I2} (h0 : ∀ h ∈ hs, 0 ≤ h.2) (h0' : ∀ h ∈ hs', 0 ≤ h.2) (h : ∀ p, hpot hs p = hpot hs' p) : stretches hs = stretches hs' := by
  obtain ⟨N, R1⟩ := stretches_ok h0'
  exact stretches_uniq h0 N (R1.eq_left h)
end Spr
/-! Plain law, part D: how great the numbers of clusters get. -/
namespace Spr
def M1 : Nat := 2 ^ 200
def M2 : Nat := 2 ^ 400
theorem M12 : M1 * M1 = M2 := by decide +kernel
def sN : List I2 → Nat
  | [] => 0
  | c :: t => c.1.natAbs + sN t
def sB : List I2 → Nat
  | [] => 0
  | c :: t => c.2.natAbs + sB t
structure PW (i : Nat) (st : List I2) (n b : Int) : Prop where
  pos : ∀ c ∈ st, 0 < c.1
  n0 : 0 < n
  bn : sN st + n.natAbs ≤ i * M1
  bb : sB st + b.natAbs ≤ i * M2
  len : st.length + 1 ≤ i
structure PB (i : Nat) (st : List I2) : Prop where
  pos : ∀ c ∈ st, 0 < c.1
  bn : sN st ≤ i * M1
  bb : sB st ≤ i * M2
  len : st.length ≤ i
theorem PW.step {i : Nat} {c : I2} {st : List I2} {n b : Int} (h : PW i (c :: st) n b) : PW i st (n + c.1) (b + c.2) := by
  have hc := h.pos c List.mem_cons_self
  have h0 := h.n0
  have h1 := h.bn
  have h2 := h.bb
  have h3 := h.len
  unfold sN at h1
  unfold sB at h2
  rw [List.length_cons] at h3
  exact ⟨fun d m => h.pos d (List.mem_cons_of_mem _ m), by omega, by omega, by omega, by omega⟩
theorem PW.push {i : Nat} {st : List I2} {n b : Int} (h : PW i st n b) : PB i ((n, b) :: st) := by
  refine ⟨fun c m => ?_, ?_, ?_, h.len⟩
  · rcases List.mem_cons.mp m with e | m
    · rw [e]; exact h.n0
    · exact h.pos c m
  · have := h.bn
    show n.natAbs + sN st ≤ _
    omega
  · have := h.bb
    show b.natAbs + sB st ≤ _
    omega
theorem PW.absorb : ∀ {i : Nat} {st : List I2} {n b : Int}, PW i st n b → PB i (absorb st n b)
  | i, [], n, b, h => h.push
  | i, c :: st, n, b, h => by
    unfold Spr.absorb
    split
    · exact h.step.absorb
    · exact h.push
theorem PB.start {i : Nat} {st : List I2} {x : I2} (h : PB i st) (h0 : 0 < x.2) (w1 : x.1.natAbs < M1) (w2 : x.2.natAbs < M1) : PW (i + 1) st x.2 (x.2 * x.1) := by
  have e : (x.2 * x.1).natAbs ≤ M2 := by
    rw [Int.natAbs_mul, ← M12]
    exact Nat.mul_le_mul (Nat.le_of_lt w2) (Nat.le_of_lt w1)
  have h1 := h.bn
  have h2 := h.bb
  have h3 := h.len
  have e1 := Nat.succ_mul i M1
  have e2 := Nat.succ_mul i M2
  exact ⟨h.pos, h0, by rw [e1]; omega, by rw [e2]; omega, by omega⟩
theorem PB.put {i : Nat} {st : List I2} {x : I2} (h : PB i st) (w1 : x.1.natAbs < M1) (w2 : x.2.natAbs < M1) : PB (i + 1) (put st x) := by
  unfold Spr.put
  split
  · next h0 => exact (h.start h0 w1 w2).absorb
  · have h1 := h.bn
    have h2 := h.bb
    have h3 := h.len
    have e1 := Nat.succ_mul i M1
    have e2 := Nat.succ_mul i M2
    exact ⟨h.pos, by rw [e1]; omega, by rw [e2]; omega, by omega⟩
theorem PB.nil : PB 0 [] := ⟨fun _ m => (nomatch m), Nat.zero_le _, Nat.zero_le _, Nat.le_refl _⟩
theorem PW.w1 {i : Nat} {st : List I2} {n b : Int} (h : PW i st n b) (hi : i ≤ 1001) : n.natAbs < 2 ^ 220 := by
  have h1 := h.bn
  have h2 : i * M1 ≤ 1001 * M1 := Nat.mul_le_mul_right _ hi
  have z : 1001 * M1 < (2 : Nat) ^ 220 := by decide +kernel
  exact Nat.lt_of_le_of_lt (Nat.le_trans (Nat.le_trans (Nat.le_add_left _ _) h1) h2) z
theorem PW.w2 {i : Nat} {st : List I2} {n b : Int} (h : PW i st n b) (hi : i ≤ 1001) : b.natAbs < 2 ^ 460 := by
  have h1 := h.bb
  have h2 : i * M2 ≤ 1001 * M2 := Nat.mul_le_mul_right _ hi
  have z : 1001 * M2 < (2 : Nat) ^ 460 := by decide +kernel
  exact Nat.lt_of_le_of_lt (Nat.le_trans (Nat.le_trans (Nat.le_add_left _ _) h1) h2) z
theorem PB.fold : ∀ {l st : List I2} {i : Nat}, PB i st → (∀ h ∈ l, h.1.natAbs < M1) → (∀ h ∈ l, h.2.natAbs < M1) → PB (i + l.length) (l.foldl Spr.put st)
  | [], st, i, h, _, _ => h
  | x :: l, st, i, h, h1, h2 => by
    have := (h.put (h1 x List.mem_cons_self) (h2 x List.mem_cons_self)).fold (fun y m => h1 y (List.mem_cons_of_mem _ m)) (fun y m => h2 y (List.mem_cons_of_mem _ m))
    rw [List.foldl_cons, List.length_cons]
    rw [show i + (l.length + 1) = i + 1 + l.length by omega]
    exact this
end Spr
/-! Plain law, part E: the law's own clusters, put together two by two, are the program's. -/
namespace Spr
def lawOver (n b : Int) : Int × Int × Option Int :=
  if n * ((2 * b - n * (n - 1)) / (2 * n)) + n * (n - 1) / 2 = b then ((2 * b - n * (n - 1)) / (2 * n), (2 * b - n * (n - 1)) / (2 * n) + n - 1, none)
  else ((2 * b - n * (n - 1)) / (2 * n), (2 * b - n * (n - 1)) / (2 * n) + n, some ((2 * b - n * (n - 1)) / (2 * n) + n - (b - n * ((2 * b - n * (n - 1)) / (2 * n)) - n * (n - 1) / 2)))
theorem lawOver_is {n b : Int} (hn : 0 < n) : lawOver n b = endsOf n b := by
  obtain ⟨t, ht⟩ : ∃ t, n * (n + 1) / 2 = t := ⟨_, rfl⟩
  have h2 : 2 * t = n * (n + 1) := by rw [← ht]; exact tri_two n
  obtain ⟨t', ht'⟩ : ∃ t', n * (n - 1) / 2 = t' := ⟨_, rfl⟩
  have e0 : n * (n - 1) = 2 * (t - n) := by
    have : n * (n - 1) = n * (n + 1) - 2 * n := by grind
    omega
  have h3 : t' = t - n := by
    rw [← ht', e0]
    omega
  obtain ⟨q, hq⟩ : ∃ q, (b - t) / n = q := ⟨_, rfl⟩
  obtain ⟨r, hr⟩ : ∃ r, (b - t) % n = r := ⟨_, rfl⟩
  have hd : b - t = n * q + r := by
    have := Int.mul_ediv_add_emod (b - t) n
    rw [hq, hr] at this
    omega
  have r0 : 0 ≤ r := by rw [← hr]; exact Int.emod_nonneg _ (by omega)
  have r1 : r < n := by rw [← hr]; exact Int.emod_lt_of_pos _ hn
  have f1 : (2 * b - n * (n - 1)) / (2 * n) = q + 1 := by
    have e1 : 2 * b - n * (n - 1) = 2 * r + (2 * n) * (q + 1) := by
      rw [e0]
      have : (2 * n) * (q + 1) = 2 * (n * q) + 2 * n := by grind
      omega
    rw [e1, Int.add_mul_ediv_left _ _ (by omega), Int.ediv_eq_zero_of_lt (by omega) (by omega)]
    omega
  have e3 : n * (q + 1) = n * q + n := by grind
  unfold lawOver endsOf
  rw [ht, ht', f1, hq, hr, e3]
  by_cases c : r = 0
  · rw [if_pos c, if_pos (by omega)]
    have : q + 1 + n - 1 = q + n := by omega
    rw [this]
  · rw [if_neg c, if_neg (by omega)]
    have e4 : (n + 1) * (q + 1) = n * q + n + q + 1 := by grind
    have : q + 1 + n - (b - (n * q + n) - t') = (n + 1) * (q + 1) + t - b := by omega
    rw [this]
def raw (l : List I2) : List I2 := (l.filter fun h => decide (0 < h.2)).map fun h => (h.2, h.2 * h.1)
def piles (st l : List I2) : List I2 := l.foldl (fun st g => absorb st g.1 g.2) st
theorem raw_pos {x : I2} {l : List I2} (h : 0 < x.2) : raw (x :: l) = (x.2, x.2 * x.1) :: raw l := by
  unfold raw
  rw [List.filter_cons_of_pos (p := fun h : I2 => decide (0 < h.2)) (by exact decide_eq_true h)]
  rfl
theorem raw_neg {x : I2} {l : List I2} (h : ¬ 0 < x.2) : raw (x :: l) = raw l := by
  unfold raw
  rw [List.filter_cons_of_neg (p := fun h : I2 => decide (0 < h.2)) (by rw [decide_eq_false h]; decide)]
theorem fold_raw : ∀ (l st : List I2), l.foldl put st = piles st (raw l)
  | [], _ => rfl
  | x :: l, st => by
    rw [List.foldl_cons, fold_raw l]
    unfold put
    by_cases h : 0 < x.2
    · rw [if_pos h, raw_pos h]
      rfl
    · rw [if_neg h, raw_neg h]
theorem sim_apart {c g : I2} {st rest : List I2} (h : ¬ firstOf g ≤ lastOf c) : piles (c :: st) (g :: rest) = piles (g :: c :: st) rest := by
  show piles (absorb (c :: st) g.1 g.2) rest = _
  rw [absorb, if_neg h]
theorem sim_meet0 {c g : I2} {rest : List I2} (h : firstOf g ≤ lastOf c) : piles [c] (g :: rest) = piles [(c.1 + g.1, c.2 + g.2)] rest := by
  show piles (absorb [c] g.1 g.2) rest = _
  rw [absorb, if_pos h, absorb, Int.add_comm g.1, Int.add_comm g.2]
theorem sim_meet {c g p : I2} {st rest : List I2} (h : firstOf g ≤ lastOf c) : piles (c :: p :: st) (g :: rest) = piles (p :: st) ((c.1 + g.1, c.2 + g.2) :: rest) := by
  show piles (absorb (c :: p :: st) g.1 g.2) rest = piles (absorb (p :: st) (c.1 + g.1) (c.2 + g.2)) rest
  rw [absorb, if_pos h, Int.add_comm g.1, Int.add_comm g.2]
/-- where the law's loop stands: what lies ahead of its place is a pile -/
def LI (t G : List I2) (a : Nat) : Prop := (G = [] ∧ a = 0 ∧ t = []) ∨ ∃ st c rest, G = st.reverse ++ c :: rest ∧ a = st.length ∧ piles (c :: st) rest = t
theorem LI.start (l : List I2) : LI (piles [] l) l 0 := by
  cases l with
  | nil => exact .inl ⟨rfl, rfl, rfl⟩
  | cons c rest => exact .inr ⟨[], c, rest, rfl, rfl, rfl⟩
theorem LI.end_ {t G : List I2} {a : Nat} (h : LI t G a) (hl : ¬ a + 1 < G.length) : G = t.reverse := by
  rcases h with ⟨rfl, rfl, rfl⟩ | ⟨st, c, rest, rfl, rfl, rfl⟩
  · rfl
  · cases rest with
    | nil =>
      show _ = (c :: st).reverse
      rw [List.reverse_cons]
    | cons g rest =>
      rw [List.length_append, List.length_reverse, List.length_cons, List.length_cons] at hl
      omega
theorem set_mid {α : Type} (m : α) : ∀ (pre : List α) (c : α) (r : List α), (pre ++ c :: r).set pre.length m = pre ++ m :: r
  | [], _, _ => rfl
  | x :: pre, c, r => congrArg (x :: ·) (set_mid m pre c r)
theorem erase_mid {α : Type} : ∀ (pre : List α) (m g : α) (r : List α), (pre ++ m :: g :: r).eraseIdx (pre.length + 1) = pre ++ m :: r
  | [], _, _, _ => rfl
  | x :: pre, m, g, r => congrArg (x :: ·) (erase_mid pre m g r)
theorem get_mid {α : Type} : ∀ (pre : List α) (c : α) (r : List α), (pre ++ c :: r)[pre.length]? = some c
  | [], _, _ => rfl
  | x :: pre, c, r => get_mid pre c r
theorem get_mid1 {α : Type} : ∀ (pre : List α) (c g : α) (r : List α), (pre ++ c :: g :: r)[pre.length + 1]? = some g
  | [], _, _, _ => rfl
  | x :: pre, c, g, r => get_mid1 pre c g r
theorem sN_app (a b : List I2) : sN (a ++ b) = sN a + sN b := by
  induction a with
  | nil => show sN b = 0 + sN b; omega
  | cons x a ih => show x.1.natAbs + sN (a ++ b) = x.1.natAbs + sN a + sN b; omega
theorem sB_app (a b : List I2) : sB (a ++ b) = sB a + sB b := by
  induction a with
  | nil => show sB b = 0 + sB b; omega
  | cons x a ih => show x.2.natAbs + sB (a ++ b) = x.2.natAbs + sB a + sB b; omega
theorem PB.mid {i : Nat} {pre r : List I2} {c g : I2} (h : PB i (pre ++ c :: g :: r)) : PB i (pre ++ (c.1 + g.1, c.2 + g.2) :: r) := by
  have h1 := h.bn
  have h2 := h.bb
  have h3 := h.len
  rw [sN_app] at h1
  rw [sB_app] at h2
  rw [List.length_append, List.length_cons, List.length_cons] at h3
  have hc := h.pos c (by simp)
  have hg := h.pos g (by simp)
  refine ⟨fun x m => ?_, ?_, ?_, ?_⟩
  · rcases List.mem_append.mp m with m | m
    · exact h.pos x (List.mem_append_left _ m)
    · rcases List.mem_cons.mp m with e | m
      · rw [e]; show 0 < c.1 + g.1; omega
      · exact h.pos x (by simp [m])
  · rw [sN_app]
    have e : sN (c :: g :: r) = c.1.natAbs + (g.1.natAbs + sN r) := rfl
    show _ + ((c.1 + g.1).natAbs + sN r) ≤ _
    omega
  · rw [sB_app]
    have e : sB (c :: g :: r) = c.2.natAbs + (g.2.natAbs + sB r) := rfl
    show _ + ((c.2 + g.2).natAbs + sB r) ≤ _
    omega
  · rw [List.length_append, List.length_cons]
    omega
theorem LI.step {t G : List I2} {a i : Nat} (h : LI t G a) (hl : a + 1 < G.length) (B : PB i G) : ∃ c g, G[a]? = some c ∧ G[a + 1]? = some g ∧ 0 < c.1 ∧ 0 < g.1 ∧
    (firstOf g ≤ lastOf c → LI t ((G.set a (c.1 + g.1, c.2 + g.2)).eraseIdx (a + 1)) (a - 1) ∧ PB i ((G.set a (c.1 + g.1, c.2 + g.2)).eraseIdx (a + 1)) ∧ ((G.set a (c.1 + g.1, c.2 + g.2)).eraseIdx (a + 1)).length + 1 = G.length) ∧ (¬ firstOf g ≤ lastOf c → LI t G (a + 1)) := by
  rcases h with ⟨rfl, rfl, rfl⟩ | ⟨st, c, rest, rfl, rfl, rfl⟩
  · exact absurd hl (by decide)
  · cases rest with
    | nil =>
      rw [List.length_append, List.length_reverse, List.length_singleton] at hl
      omega
    | cons g rest =>
      have el : st.length = st.reverse.length := by rw [List.length_reverse]
      have e1 : (st.reverse ++ c :: g :: rest).set st.length (c.1 + g.1, c.2 + g.2) = st.reverse ++ (c.1 + g.1, c.2 + g.2) :: g :: rest := by
        rw [el]; exact set_mid _ _ _ _
      have e2 : ((st.reverse ++ c :: g :: rest).set st.length (c.1 + g.1, c.2 + g.2)).eraseIdx (st.length + 1) = st.reverse ++ (c.1 + g.1, c.2 + g.2) :: rest := by
        rw [e1, el]; exact erase_mid _ _ _ _
      refine ⟨c, g, ?_, ?_, B.pos c (by simp), B.pos g (by simp), fun hm => ⟨?_, ?_, ?_⟩, fun hm => ?_⟩
      · rw [el]; exact get_mid _ _ _
      · rw [el]; exact get_mid1 _ _ _ _
      · rw [e2]
        cases st with
        | nil => exact .inr ⟨[], _, rest, rfl, rfl, (sim_meet0 hm).symm⟩
        | cons p st =>
          refine .inr ⟨st, p, (c.1 + g.1, c.2 + g.2) :: rest, ?_, rfl, (sim_meet hm).symm⟩
          rw [List.reverse_cons, List.append_assoc]
          rfl
      · rw [e2]
        exact B.mid
      · rw [e2, List.length_append, List.length_append, List.length_cons, List.length_cons, List.length_cons]
        omega
      · refine .inr ⟨c :: st, g, rest, ?_, rfl, (sim_apart hm).symm⟩
        rw [List.reverse_cons, List.append_assoc]
        rfl
theorem PB.raw {l : List I2} (w1 : ∀ h ∈ l, h.1.natAbs < M1) (w2 : ∀ h ∈ l, h.2.natAbs < M1) : PB l.length (raw l) := by
  induction l with
  | nil => exact .nil
  | cons x l ih =>
    have q := ih (fun h m => w1 h (List.mem_cons_of_mem _ m)) (fun h m => w2 h (List.mem_cons_of_mem _ m))
    have h1 := q.bn
    have h2 := q.bb
    have h3 := q.len
    have e1 := Nat.succ_mul l.length M1
    have e2 := Nat.succ_mul l.length M2
    rw [List.length_cons]
    by_cases h : 0 < x.2
    · rw [raw_pos h]
      have e : (x.2 * x.1).natAbs ≤ M2 := by
        rw [Int.natAbs_mul, ← M12]
        exact Nat.mul_le_mul (Nat.le_of_lt (w2 x List.mem_cons_self)) (Nat.le_of_lt (w1 x List.mem_cons_self))
      have e4 := w2 x List.mem_cons_self
      refine ⟨fun c m => ?_, ?_, ?_, ?_⟩
      · rcases List.mem_cons.mp m with z | m
        · rw [z]; exact h
        · exact q.pos c m
      · rw [e1]
        show x.2.natAbs + sN _ ≤ _
        omega
      · rw [e2]
        show (x.2 * x.1).natAbs + sB _ ≤ _
        omega
      · rw [List.length_cons]
        omega
    · rw [raw_neg h]
      exact ⟨q.pos, by rw [e1]; omega, by rw [e2]; omega, by omega⟩
theorem PB.get {i : Nat} {G : List I2} {c : I2} (h : PB i G) (hi : i ≤ 1001) (m : c ∈ G) : 0 < c.1 ∧ c.1.natAbs < 2 ^ 220 ∧ c.2.natAbs < 2 ^ 460 := by
  obtain ⟨a, b, rfl⟩ := List.append_of_mem m
  have h1 := h.bn
  have h2 := h.bb
  rw [sN_app] at h1
  rw [sB_app] at h2
  have e1 : sN (c :: b) = c.1.natAbs + sN b := rfl
  have e2 : sB (c :: b) = c.2.natAbs + sB b := rfl
  have h3 : i * M1 ≤ 1001 * M1 := Nat.mul_le_mul_right _ hi
  have h4 : i * M2 ≤ 1001 * M2 := Nat.mul_le_mul_right _ hi
  have z1 : 1001 * M1 < (2 : Nat) ^ 220 := by decide +kernel
  have z2 : 1001 * M2 < (2 : Nat) ^ 460 := by decide +kernel
  refine ⟨h.pos c m, Nat.lt_of_le_of_lt ?_ z1, Nat.lt_of_le_of_lt ?_ z2⟩ <;> omega
end Spr
/-! Plain law, part F: what is counted over stretches; how great their ends get; another order. -/
namespace Spr
def tot (f : I2 → Int) (l : List I2) : Int := (l.map f).sum
theorem tot_nil (f : I2 → Int) : tot f [] = 0 := rfl
theorem tot_cons (f : I2 → Int) (x : I2) (l : List I2) : tot f (x :: l) = f x + tot f l := by
  unfold tot
  rw [List.map_cons, List.sum_cons]
theorem tot_app (f : I2 → Int) (a b : List I2) : tot f (a ++ b) = tot f a + tot f b := by
  induction a with
  | nil => rw [List.nil_append, tot_nil]; omega
  | cons x a ih => rw [List.cons_append, tot_cons, tot_cons, ih]; omega
theorem tot_rev (f : I2 → Int) (a : List I2) : tot f a.reverse = tot f a := by
  induction a with
  | nil => rfl
  | cons x a ih => rw [List.reverse_cons, tot_app, ih, tot_cons, tot_cons, tot_nil]; omega
theorem tot_perm (f : I2 → Int) {a b : List I2} (h : a.Perm b) : tot f a = tot f b := by
  induction h with
  | nil => rfl
  | cons x h ih => rw [tot_cons, tot_cons, ih]
  | swap x y l => rw [tot_cons, tot_cons, tot_cons, tot_cons]; omega
  | trans h1 h2 i1 i2 => rw [i1, i2]
theorem tot_congr {f g : I2 → Int} {l : List I2} (h : ∀ x ∈ l, f x = g x) : tot f l = tot g l := by
  induction l with
  | nil => rfl
  | cons x l ih => rw [tot_cons, tot_cons, h x List.mem_cons_self, ih fun y m => h y (List.mem_cons_of_mem _ m)]
theorem joins_tot {φ : I2 → Int} (hφ : ∀ a z y, φ (a, z) + φ (z + 1, y) = φ (a, y)) : ∀ ps acc : List I2, tot φ (ps.foldl joinp acc) = tot φ acc + tot φ ps
  | [], acc => by rw [tot_nil]; show tot φ acc = _; omega
  | s :: ps, acc => by
    rw [List.foldl_cons, joins_tot hφ ps, tot_cons]
    cases acc with
    | nil =>
      show tot φ [s] + _ = _
      rw [tot_cons, tot_nil]; omega
    | cons q t =>
      unfold joinp
      dsimp only
      split
      · next e =>
        rw [tot_cons, tot_cons]
        have := hφ q.1 q.2 s.2
        have e2 : φ (q.2 + 1, s.2) = φ s := by rw [e]
        have e3 : φ (q.1, q.2) = φ q := rfl
        omega
      · rw [tot_cons, tot_cons]; omega
theorem absorb_tot {g : I2 → Int} (hg : ∀ a b c d, g (a + c, b + d) = g (a, b) + g (c, d)) : ∀ (st : List I2) (n b : Int), tot g (absorb st n b) = tot g st + g (n, b)
  | [], n, b => by rw [absorb, tot_cons, tot_nil]; omega
  | c :: st, n, b => by
    rw [absorb]
    split
    · rw [absorb_tot hg st, hg, tot_cons]
      have : g (c.1, c.2) = g c := rfl
      omega
    · rw [tot_cons, tot_cons]; omega
theorem fold_tot {g : I2 → Int} (hg : ∀ a b c d, g (a + c, b + d) = g (a, b) + g (c, d)) : ∀ (l st : List I2), (∀ h ∈ l, 0 ≤ h.2) → tot g (l.foldl put st) = tot g st + tot (fun h => g (h.2, h.2 * h.1)) l
  | [], st, _ => by rw [tot_nil]; show tot g st = _; omega
  | x :: l, st, h0 => by
    rw [List.foldl_cons, fold_tot hg l _ fun h m => h0 h (List.mem_cons_of_mem _ m), tot_cons]
    unfold put
    split
    · rw [absorb_tot hg]; omega
    · have e : x.2 = 0 := by have := h0 x List.mem_cons_self; omega
      have z := hg 0 0 0 0
      rw [e, Int.zero_mul]
      have z2 : g (0 + 0, 0 + 0) = g (0, 0) := rfl
      omega
/-- what is counted over the stretches is what is counted over the heaps -/
theorem stretches_tot {φ g : I2 → Int} (hφ : ∀ a z y, φ (a, z) + φ (z + 1, y) = φ (a, y)) (hg : ∀ a b c d, g (a + c, b + d) = g (a, b) + g (c, d))
    (hp : ∀ c : I2, Good c.1 c.2 → tot φ (parts c) = g c) {hs : List I2} (h0 : ∀ h ∈ hs, 0 ≤ h.2) : tot φ (stretches hs) = tot (fun h => g (h.2, h.2 * h.1)) hs := by
  obtain ⟨P, _⟩ := clus_ok h0
  have e1 : tot φ (stretches hs) = tot φ ((clus hs).flatMap parts) := by
    unfold stretches
    rw [tot_rev, joins_tot hφ, tot_nil]; omega
  have e2 : ∀ l : List I2, (∀ c ∈ l, Good c.1 c.2) → tot φ (l.flatMap parts) = tot g l := by
    intro l
    induction l with
    | nil => intro _; rfl
    | cons c l ih =>
      intro hl
      rw [List.flatMap_cons, tot_app, tot_cons, hp c (hl c List.mem_cons_self), ih fun d m => hl d (List.mem_cons_of_mem _ m)]
  have e3 : tot g (clus hs) = tot g (clusS (srt hs)) := tot_rev g _
  have e4 : tot g (clusS (srt hs)) = tot (fun h => g (h.2, h.2 * h.1)) (srt hs) := by
    unfold clusS
    rw [fold_tot hg _ _ fun h m => h0 h ((srt_perm hs).mem_iff.mp m), tot_nil]; omega
  rw [e1, e2 (clus hs) fun c m => P.good c (List.mem_reverse.mp m), e3, e4, tot_perm _ (srt_perm hs)]
/-- as many -/
theorem mass_ok {hs : List I2} (h0 : ∀ h ∈ hs, 0 ≤ h.2) : tot (fun s => s.2 - s.1 + 1) (stretches hs) = tot (fun h => h.2) hs := by
  refine stretches_tot (g := fun c => c.1) (fun a z y => by show z - a + 1 + (y - (z + 1) + 1) = y - a + 1; omega) (fun a b c d => rfl) (fun c g => ?_) h0
  obtain ⟨V, e1, _⟩ := g.at
  unfold parts
  cases e : emptyOf c with
  | none =>
    rw [e] at e1
    rw [tot_cons, tot_nil]
    show lastOf c - firstOf c + 1 + 0 = c.1
    rw [e1]
    show _ = lastOf c - firstOf c + 1
    omega
  | some x =>
    rw [e] at e1
    rw [tot_cons, tot_cons, tot_nil]
    show x - 1 - firstOf c + 1 + (lastOf c - (x + 1) + 1 + 0) = c.1
    rw [e1]
    show _ = lastOf c - firstOf c
    omega
/-- the same sum of places -/
theorem mom_ok {hs : List I2} (h0 : ∀ h ∈ hs, 0 ≤ h.2) : tot (fun s => (s.1 + s.2) * (s.2 - s.1 + 1)) (stretches hs) = 2 * tot (fun h => h.1 * h.2) hs := by
  have q := stretches_tot (φ := fun s => (s.1 + s.2) * (s.2 - s.1 + 1)) (g := fun c => 2 * c.2) (fun a z y => by show (a + z) * (z - a + 1) + (z + 1 + y) * (y - (z + 1) + 1) = (a + y) * (y - a + 1); grind) (fun a b c d => by show 2 * (b + d) = 2 * b + 2 * d; omega) (fun c g => ?_) h0
  · rw [q]
    have e : ∀ l : List I2, tot (fun h => 2 * (h.2 * h.1)) l = 2 * tot (fun h => h.1 * h.2) l := by
      intro l
      induction l with
      | nil => rfl
      | cons x l ih => rw [tot_cons, tot_cons, ih, Int.mul_comm x.2]; omega
    exact e hs
  · obtain ⟨V, _, e2⟩ := g.at
    have t1 := tri_two (lastOf c)
    have t2 := tri_two (firstOf c - 1)
    unfold parts
    cases e : emptyOf c with
    | none =>
      rw [e] at e2
      rw [tot_cons, tot_nil]
      show (firstOf c + lastOf c) * (lastOf c - firstOf c + 1) + 0 = 2 * c.2
      rw [e2]
      show _ = 2 * (tri (lastOf c) - tri (firstOf c - 1))
      have : (firstOf c + lastOf c) * (lastOf c - firstOf c + 1) = lastOf c * (lastOf c + 1) - (firstOf c - 1) * (firstOf c - 1 + 1) := by grind
      omega
    | some x =>
      rw [e] at e2
      rw [tot_cons, tot_cons, tot_nil]
      show (firstOf c + (x - 1)) * (x - 1 - firstOf c + 1) + ((x + 1 + lastOf c) * (lastOf c - (x + 1) + 1) + 0) = 2 * c.2
      rw [e2]
      show _ = 2 * (tri (lastOf c) - tri (firstOf c - 1) - x)
      have : (firstOf c + (x - 1)) * (x - 1 - firstOf c + 1) + (x + 1 + lastOf c) * (lastOf c - (x + 1) + 1) = lastOf c * (lastOf c + 1) - (firstOf c - 1) * (firstOf c - 1 + 1) - 2 * x := by grind
      omega
/-- another order of the heaps -/
theorem stretches_perm {hs hs' : List I2} (h : hs.Perm hs') : stretches hs = stretches hs' := by
  unfold stretches clus
  rw [srt_congr h]
/-! ### how great -/
theorem joins_all {p : Int → Prop} : ∀ ps acc : List I2, (∀ s ∈ ps, p s.1 ∧ p s.2) → (∀ s ∈ acc, p s.1 ∧ p s.2) → ∀ s ∈ ps.foldl joinp acc, p s.1 ∧ p s.2
  | [], acc, _, h2 => h2
  | s :: ps, acc, h1, h2 => by
    rw [List.foldl_cons]
    have hs := h1 s List.mem_cons_self
    refine joins_all ps _ (fun q m => h1 q (List.mem_cons_of_mem _ m)) fun q m => ?_
    cases acc with
    | nil =>
      have : q = s := List.mem_singleton.mp m
      rw [this]; exact hs
    | cons u t =>
      unfold joinp at m
      dsimp only at m
      split at m
      · rcases List.mem_cons.mp m with z | m
        · rw [z]; exact ⟨(h2 u List.mem_cons_self).1, hs.2⟩
        · exact h2 q (List.mem_cons_of_mem _ m)
      · rcases List.mem_cons.mp m with z | m
        · rw [z]; exact hs
        · exact h2 q m
theorem stretches_in {hs : List I2} (h0 : ∀ h ∈ hs, 0 ≤ h.2) {p : Int → Prop} (hp : ∀ c ∈ clus hs, ∀ x, firstOf c ≤ x → x ≤ lastOf c → p x) : ∀ s ∈ stretches hs, p s.1 ∧ p s.2 := by
  obtain ⟨P, _⟩ := clus_ok h0
  intro s m
  refine joins_all ((clus hs).flatMap parts) [] (fun q mq => ?_) (fun q mq => nomatch mq) s (List.mem_reverse.mp m)
  obtain ⟨c, mc, mq⟩ := List.mem_flatMap.mp mq
  have := (parts_ok (P.good c (List.mem_reverse.mp mc))).1 q mq
  exact ⟨hp c mc _ (by omega) (by omega), hp c mc _ (by omega) (by omega)⟩
theorem ends_wd {n b : Int} (hn : 0 < n) (w1 : n.natAbs < 2 ^ 220) (w2 : b.natAbs < 2 ^ 460) : (firstOf (n, b)).natAbs < 2 ^ 700 ∧ (lastOf (n, b)).natAbs < 2 ^ 700 := by
  have d1 : n * (n + 1) / 2 = tri n := rfl
  have t0 : 0 ≤ tri n := by
    have := tri_two n
    have := Int.mul_nonneg (a := n) (b := n + 1) (by omega) (by omega)
    omega
  have t1 : tri n ≤ n * n := by
    have := tri_two n
    have e : n * (n + 1) = n * n + n := by grind
    have : n ≤ n * n := by
      have := Int.mul_le_mul_of_nonneg_left (a := 1) (b := n) (c := n) (by omega) (by omega)
      omega
    omega
  have t2 : (n * n).natAbs < 2 ^ 440 := by
    rw [Int.natAbs_mul, show (2 : Nat) ^ 440 = 2 ^ 220 * 2 ^ 220 by decide +kernel]
    exact Nat.mul_lt_mul'' w1 w1
  have t3 : (b - tri n).natAbs ≤ b.natAbs + (n * n).natAbs := by omega
  have t4 : ((b - tri n) / n).natAbs ≤ (b - tri n).natAbs := Int.natAbs_ediv_le_natAbs _ _
  have z : (2 : Nat) ^ 460 + 2 ^ 440 + 2 ^ 220 + 1 < 2 ^ 700 := by decide +kernel
  unfold firstOf lastOf endsOf
  rw [d1]
  generalize (2 : Nat) ^ 700 = Z at *
  generalize (2 : Nat) ^ 460 = Z1 at *
  generalize (2 : Nat) ^ 440 = Z2 at *
  generalize (2 : Nat) ^ 220 = Z3 at *
  dsimp only
  split
  · dsimp only
    generalize (b - tri n) / n = y at *
    omega
  · dsimp only
    generalize (b - tri n) / n = y at *
    omega
theorem abs_mid {a b x : Int} {N : Nat} (h1 : a ≤ x) (h2 : x ≤ b) (ha : a.natAbs < N) (hb : b.natAbs < N) : x.natAbs < N := by omega
end Spr
/-! Plain law, part G: how often a place gives, how often all do. -/
namespace Spr
def gaveI (hs : List I2) (p : Int) : Int := spot (stretches hs) p - hpot hs p
theorem gave_nonneg {hs : List I2} (h0 : ∀ h ∈ hs, 0 ≤ h.2) (p : Int) : 0 ≤ gaveI hs p := by
  have := (stretches_ok h0).2.le p
  unfold gaveI
  omega
/-! ### as the program reckons -/
def endI (l p : Int) : Int := if p - 1 < l then p - 1 else l
def ivc (f l p : Int) : Int := if f ≤ endI l p then (endI l p - f + 1) * p - (endI l p - f + 1) * (f + endI l p) / 2 else 0
theorem ivc_is {f l : Int} (h : f ≤ l) (p : Int) : ivc f l p = iv f l p := by
  unfold ivc endI
  by_cases c1 : p - 1 < l
  · rw [if_pos c1]
    by_cases c2 : f ≤ p - 1
    · rw [if_pos c2]
      unfold iv
      rw [up_high (by omega), up_low (by omega)]
      obtain ⟨m, hm⟩ : ∃ m, p = f + m := ⟨p - f, by omega⟩
      subst hm
      have t := tri_two m
      have e1 : f + m - 1 - f + 1 = m := by omega
      have e2 : f + (f + m - 1) = 2 * f + m - 1 := by omega
      have e3 : f + m - f = m := by omega
      rw [e1, e2, e3]
      have e4 : m * (2 * f + m - 1) = 2 * (m * (f + m)) - m * (m + 1) := by grind
      rw [e4]
      omega
    · rw [if_neg c2]
      unfold iv
      rw [up_low (by omega), up_low (by omega)]
      rfl
  · rw [if_neg c1, if_pos h]
    unfold iv
    rw [up_high (by omega), up_high (by omega)]
    obtain ⟨m, hm⟩ : ∃ m, l = f + m - 1 := ⟨l - f + 1, by omega⟩
    subst hm
    obtain ⟨u, hu⟩ : ∃ u, p = f + m + u := ⟨p - f - m, by omega⟩
    subst hu
    have t1 := tri_two (m + u)
    have t2 := tri_two u
    have e1 : f + m - 1 - f + 1 = m := by omega
    have e2 : f + (f + m - 1) = 2 * f + m - 1 := by omega
    have e3 : f + m + u - f = m + u := by omega
    have e5 : f + m + u - (f + m - 1 + 1) = u := by omega
    rw [e1, e2, e3, e5]
    have e4 : m * (2 * f + m - 1) = 2 * (m * (f + m + u)) - ((m + u) * (m + u + 1) - u * (u + 1)) := by grind
    rw [e4]
    omega
def chipc (s p c : Int) : Int := if s < p then (p - s) * c else 0
theorem chipc_is (s p c : Int) : chipc s p c = c * chip s p := by
  unfold chipc chip
  by_cases h : s < p
  · rw [if_pos h, if_neg (by omega), Int.mul_comm]
  · rw [if_neg h, if_pos (by omega), Int.mul_zero]
theorem spot_snoc (l : List I2) (s : I2) (p : Int) : spot (l ++ [s]) p = spot l p + iv s.1 s.2 p := by
  rw [spot_append]
  show _ + (iv s.1 s.2 p + 0) = _
  omega
theorem hpot_snoc (l : List I2) (h : I2) (p : Int) : hpot (l ++ [h]) p = hpot l p + h.2 * chip h.1 p := by
  rw [hpot_append]
  show _ + (h.2 * chip h.1 p + 0) = _
  omega
/-! ### what it has in the end -/
def hadI (hs : List I2) (p : Int) : Int := tot (fun h => h.2) (hs.filter fun h => decide (h.1 = p))
theorem lap_hpot : ∀ (hs : List I2) (p : Int), lap (hpot hs) p = hadI hs p
  | [], p => rfl
  | h :: t, p => by
    have e : lap (hpot (h :: t)) p = h.2 * lap (chip h.1) p + lap (hpot t) p := by
      show (h.2 * _ + hpot t _) + (h.2 * _ + hpot t _) - 2 * (h.2 * _ + hpot t _) = _
      unfold lap
      rw [Int.mul_sub h.2, Int.mul_add h.2]
      have : h.2 * (2 * chip h.1 p) = 2 * (h.2 * chip h.1 p) := by rw [Int.mul_left_comm]
      omega
    rw [e, lap_chip, lap_hpot t]
    unfold hadI
    by_cases c : h.1 = p
    · rw [if_pos c.symm, List.filter_cons_of_pos (p := fun h : I2 => decide (h.1 = p)) (by exact decide_eq_true c), tot_cons, Int.mul_one]
    · rw [if_neg (fun z => c z.symm), List.filter_cons_of_neg (p := fun h : I2 => decide (h.1 = p)) (by rw [decide_eq_false c]; decide), Int.mul_zero]
      omega
theorem gave_lap {hs : List I2} (h0 : ∀ h ∈ hs, 0 ≤ h.2) (p : Int) : hadI hs p + gaveI hs (p - 1) + gaveI hs (p + 1) - 2 * gaveI hs p = if hasB (stretches hs) p = true then 1 else 0 := by
  rw [← lap_spot (stretches_ok h0).1, ← lap_hpot]
  unfold lap gaveI
  omega
/-! ### far out -/
theorem hpot_nonneg {hs : List I2} (h0 : ∀ h ∈ hs, 0 ≤ h.2) (p : Int) : 0 ≤ hpot hs p := by
  induction hs with
  | nil => exact Int.le_refl 0
  | cons h t ih =>
    have h1 := ih fun x m => h0 x (List.mem_cons_of_mem _ m)
    have h2 := h0 h List.mem_cons_self
    have h3 : 0 ≤ chip h.1 p := by unfold chip; split <;> omega
    have h4 := Int.mul_nonneg h2 h3
    show 0 ≤ h.2 * chip h.1 p + hpot t p
    omega
theorem spot_left {l : List I2} {p : Int} (h : ∀ s ∈ l, s.1 ≤ s.2 ∧ p ≤ s.1) : spot l p = 0 := by
  induction l with
  | nil => rfl
  | cons s l ih =>
    have h1 := ih fun x m => h x (List.mem_cons_of_mem _ m)
    obtain ⟨h2, h3⟩ := h s List.mem_cons_self
    show iv s.1 s.2 p + spot l p = 0
    unfold iv
    rw [up_low (by omega), up_low (by omega), h1]
    rfl
theorem gave_left {hs : List I2} (h0 : ∀ h ∈ hs, 0 ≤ h.2) {p : Int} (h : ∀ s ∈ stretches hs, p ≤ s.1) : gaveI hs p = 0 := by
  have h1 := gave_nonneg h0 p
  have h2 := hpot_nonneg h0 p
  have h3 := spot_left (l := stretches hs) (p := p) fun s m => ⟨(stretches_ok h0).1.le s m, h s m⟩
  unfold gaveI at *
  omega
theorem up_high1 {l p : Int} (h : l ≤ p + 1) : up l p = tri (p - l) := by
  by_cases c : l ≤ p
  · exact up_high c
  · rw [up_low (by omega), show p - l = -1 by omega]
    rfl
theorem spot_right {l : List I2} {p : Int} (h : ∀ s ∈ l, s.1 ≤ s.2 ∧ s.2 ≤ p) : 2 * spot l p = 2 * p * tot (fun s => s.2 - s.1 + 1) l - tot (fun s => (s.1 + s.2) * (s.2 - s.1 + 1)) l := by
  induction l with
  | nil => rw [tot_nil, tot_nil]; show 2 * (0 : Int) = 2 * p * 0 - 0; omega
  | cons s l ih =>
    have h1 := ih fun x m => h x (List.mem_cons_of_mem _ m)
    obtain ⟨h2, h3⟩ := h s List.mem_cons_self
    rw [tot_cons, tot_cons]
    show 2 * (iv s.1 s.2 p + spot l p) = _
    unfold iv
    rw [up_high1 (show s.1 ≤ p + 1 by omega), up_high1 (show s.2 + 1 ≤ p + 1 by omega)]
    have t1 := tri_two (p - s.1)
    have t2 := tri_two (p - (s.2 + 1))
    have e : (p - s.1) * (p - s.1 + 1) - (p - (s.2 + 1)) * (p - (s.2 + 1) + 1) = 2 * p * (s.2 - s.1 + 1) - (s.1 + s.2) * (s.2 - s.1 + 1) := by grind
    have e2 : 2 * p * (s.2 - s.1 + 1 + tot (fun s => s.2 - s.1 + 1) l) = 2 * p * (s.2 - s.1 + 1) + 2 * p * tot (fun s => s.2 - s.1 + 1) l := Int.mul_add _ _ _
    omega
theorem hpot_least {hs : List I2} (h0 : ∀ h ∈ hs, 0 ≤ h.2) (p : Int) : p * tot (fun h => h.2) hs - tot (fun h => h.1 * h.2) hs ≤ hpot hs p := by
  induction hs with
  | nil => rw [tot_nil, tot_nil]; show p * 0 - 0 ≤ 0; omega
  | cons h t ih =>
    have h1 := ih fun x m => h0 x (List.mem_cons_of_mem _ m)
    have h2 := h0 h List.mem_cons_self
    have h3 : p - h.1 ≤ chip h.1 p := by unfold chip; split <;> omega
    have h4 := Int.mul_le_mul_of_nonneg_left h3 h2
    have e1 : h.2 * (p - h.1) = p * h.2 - h.1 * h.2 := by grind
    have e2 : p * (h.2 + tot (fun h => h.2) t) = p * h.2 + p * tot (fun h => h.2) t := Int.mul_add _ _ _
    rw [tot_cons, tot_cons]
    show _ ≤ h.2 * chip h.1 p + hpot t p
    omega
theorem gave_right {hs : List I2} (h0 : ∀ h ∈ hs, 0 ≤ h.2) {p : Int} (h : ∀ s ∈ stretches hs, s.2 ≤ p) : gaveI hs p = 0 := by
  have h1 := gave_nonneg h0 p
  have h2 := hpot_least h0 p
  have h3 := spot_right (l := stretches hs) (p := p) fun s m => ⟨(stretches_ok h0).1.le s m, h s m⟩
  rw [mass_ok h0, mom_ok h0] at h3
  have e : 2 * p * tot (fun h => h.2) hs = 2 * (p * tot (fun h => h.2) hs) := Int.mul_assoc _ _ _
  unfold gaveI at *
  omega
theorem NF.lo {s : I2} {l : List I2} (h : NF (s :: l)) : ∀ x ∈ s :: l, s.1 ≤ x.1 := fun x m => by
  have h1 := h.le s List.mem_cons_self
  rcases List.mem_cons.mp m with e | m
  · rw [e]; exact Int.le_refl _
  · have := (List.pairwise_cons.mp h.gap).1 x m
    omega
theorem NF.hi {s : I2} {l : List I2} (h : NF (l ++ [s])) : ∀ x ∈ l ++ [s], x.2 ≤ s.2 := fun x m => by
  have h1 := h.le s (by simp)
  rcases List.mem_append.mp m with m | m
  · have := (List.pairwise_append.mp h.gap).2.2 x m s (by simp)
    omega
  · rw [List.mem_singleton.mp m]; exact Int.le_refl _
/-! ### squares -/
def sqs (m : Int) : Int := m * (m + 1) * (2 * m + 1) / 6
def u3 (m : Int) : Int := (m - 1) * m * (m + 1) / 6
theorem six (m : Int) : (m - 1) * m * (m + 1) % 6 = 0 := by
  obtain ⟨k, r, hm, hr⟩ : ∃ k r : Int, m = 6 * k + r ∧ (r = 0 ∨ r = 1 ∨ r = 2 ∨ r = 3 ∨ r = 4 ∨ r = 5) := ⟨m / 6, m % 6, by omega, by omega⟩
  have e : (m - 1) * m * (m + 1) = 6 * (36 * k * k * k + 18 * k * k * r + 3 * k * r * r - k) + (r - 1) * r * (r + 1) := by
    subst hm
    grind
  rw [e, Int.add_comm, Int.add_mul_emod_self_left]
  rcases hr with rfl | rfl | rfl | rfl | rfl | rfl <;> decide
theorem sqs_is (m : Int) : sqs m = tri m + 2 * u3 m := by
  have h1 := six m
  have h2 := tri_two m
  have h3 : 6 * u3 m = (m - 1) * m * (m + 1) := by unfold u3; omega
  have e : m * (m + 1) * (2 * m + 1) = 3 * (m * (m + 1)) + 2 * ((m - 1) * m * (m + 1)) := by grind
  unfold sqs
  rw [e]
  omega
theorem sqs_six (m : Int) : 6 * sqs m = m * (m + 1) * (2 * m + 1) := by
  rw [sqs_is]
  have h2 := tri_two m
  have h1 := six m
  have h3 : 6 * u3 m = (m - 1) * m * (m + 1) := by unfold u3; omega
  have e : m * (m + 1) * (2 * m + 1) = 3 * (m * (m + 1)) + 2 * ((m - 1) * m * (m + 1)) := by grind
  omega
def sqS (s : I2) : Int := sqs s.2 - sqs (s.1 - 1)
theorem lawSq_is (f l : Int) : (l - f + 1) * f * f + f * (l - f + 1) * (l - f + 1 - 1) + (l - f + 1 - 1) * (l - f + 1) * (2 * (l - f + 1) - 1) / 6 = sqS (f, l) := by
  have e1 : (l - f + 1 - 1) * (l - f + 1) * (2 * (l - f + 1) - 1) / 6 = sqs (l - f) := by
    unfold sqs
    have : (l - f + 1 - 1) * (l - f + 1) * (2 * (l - f + 1) - 1) = (l - f) * (l - f + 1) * (2 * (l - f) + 1) := by grind
    rw [this]
  rw [e1]
  unfold sqS
  have a1 := sqs_six (l - f)
  have a2 := sqs_six l
  have a3 := sqs_six (f - 1)
  have : 6 * ((l - f + 1) * f * f + f * (l - f + 1) * (l - f + 1 - 1)) + (l - f) * (l - f + 1) * (2 * (l - f) + 1) = l * (l + 1) * (2 * l + 1) - (f - 1) * (f - 1 + 1) * (2 * (f - 1) + 1) := by grind
  show _ = sqs l - sqs (f - 1)
  omega
def sqH (h : I2) : Int := h.1 * h.1 * h.2
/-- how often all give, twice -/
def twice (hs : List I2) : Int := tot sqS (stretches hs) - tot sqH hs
theorem tot_add (f g : I2 → Int) (l : List I2) : tot (fun x => f x + 2 * g x) l = tot f l + 2 * tot g l := by
  induction l with
  | nil => rfl
  | cons x l ih => rw [tot_cons, tot_cons, tot_cons, ih]; omega
theorem twice_even {hs : List I2} (h0 : ∀ h ∈ hs, 0 ≤ h.2) : ∃ k, twice hs = 2 * k := by
  have e1 : tot sqS (stretches hs) = tot (fun s => tri s.2 - tri (s.1 - 1)) (stretches hs) + 2 * tot (fun s => u3 s.2 - u3 (s.1 - 1)) (stretches hs) := by
    rw [← tot_add]
    refine tot_congr fun x _ => ?_
    unfold sqS
    rw [sqs_is, sqs_is]
    omega
  have e2 : 2 * tot (fun s => tri s.2 - tri (s.1 - 1)) (stretches hs) = tot (fun s => (s.1 + s.2) * (s.2 - s.1 + 1)) (stretches hs) := by
    have : ∀ l : List I2, 2 * tot (fun s => tri s.2 - tri (s.1 - 1)) l = tot (fun s => (s.1 + s.2) * (s.2 - s.1 + 1)) l := by
      intro l
      induction l with
      | nil => rfl
      | cons s l ih =>
        rw [tot_cons, tot_cons, Int.mul_add, ih]
        have t1 := tri_two s.2
        have t2 := tri_two (s.1 - 1)
        have : (s.1 + s.2) * (s.2 - s.1 + 1) = s.2 * (s.2 + 1) - (s.1 - 1) * (s.1 - 1 + 1) := by grind
        omega
    exact this _
  have e3 : tot sqH hs = tot (fun h => h.1 * h.2) hs + 2 * tot (fun h => tri (h.1 - 1) * h.2) hs := by
    rw [← tot_add]
    refine tot_congr fun x _ => ?_
    unfold sqH
    have t := tri_two (x.1 - 1)
    have e : 2 * (tri (x.1 - 1) * x.2) = (2 * tri (x.1 - 1)) * x.2 := by rw [Int.mul_assoc]
    rw [e, t]
    grind
  rw [mom_ok h0] at e2
  unfold twice
  rw [e1, e3]
  exact ⟨tot (fun s => u3 s.2 - u3 (s.1 - 1)) (stretches hs) - tot (fun h => tri (h.1 - 1) * h.2) hs, by omega⟩
def allI (hs : List I2) : Int := twice hs / 2
theorem all_two {hs : List I2} (h0 : ∀ h ∈ hs, 0 ≤ h.2) : 2 * allI hs = twice hs := by
  obtain ⟨k, hk⟩ := twice_even h0
  unfold allI
  omega
end Spr
/-! the text by places -/
namespace Wk
open PySem PySem.Spec PyProof.Rows L2
def topS (i : Nat) : Stmt := PySem.Challenge.pw_spreadrow_k06_written.main.body.getD i (.Pass ⟨0, 0, 0, 0⟩)
abbrev st_law : Stmt := topS 29
theorem sc_law : FnScope ["_law_script", "_law_heaps_here", "_law_text", "_law_place", "_law_count", "_law_handed", "_law_cell", "_law_k", "_law_at", "_law_sign", "_law_other", "_law_thing"] ["_law_script"] (defScope st_law) := ⟨rfl, rfl, rfl, by decide +kernel, rfl, by decide +kernel, by decide +kernel⟩
abbrev st__law_heaps : Stmt := topS 18
theorem sc__law_heaps : FnScope ["_law_script", "_law_found", "_law_k", "_law_most", "_law_wide"] ["_law_script"] (defScope st__law_heaps) := ⟨rfl, rfl, rfl, by decide +kernel, rfl, by decide +kernel, by decide +kernel⟩
abbrev st__law_cell_at : Stmt := topS 16
theorem sc__law_cell_at : FnScope ["_law_script", "_law_k"] ["_law_script", "_law_k"] (defScope st__law_cell_at) := ⟨rfl, rfl, rfl, by decide +kernel, rfl, by decide +kernel, by decide +kernel⟩
abbrev st__law_draw : Stmt := topS 17
theorem sc__law_draw : FnScope ["_law_cell", "_law_k", "_law_many", "_law_primes"] ["_law_cell", "_law_k", "_law_many"] (defScope st__law_draw) := ⟨rfl, rfl, rfl, by decide +kernel, rfl, by decide +kernel, by decide +kernel⟩
abbrev st_written : Stmt := topS 12
theorem sc_written : FnScope ["heaps", "place", "count"] ["heaps"] (defScope st_written) := ⟨rfl, rfl, rfl, by decide +kernel, rfl, by decide +kernel, by decide +kernel⟩
abbrev st__law_right : Stmt := topS 27
theorem sc__law_right : FnScope ["_law_text", "_law_due", "_law_found"] ["_law_text"] (defScope st__law_right) := ⟨rfl, rfl, rfl, by decide +kernel, rfl, by decide +kernel, by decide +kernel⟩
abbrev st__law_refused : Stmt := topS 26
theorem sc__law_refused : FnScope ["_law_text", "error", "_law_others"] ["_law_text"] (defScope st__law_refused) := ⟨rfl, rfl, rfl, by decide +kernel, rfl, by decide +kernel, by decide +kernel⟩
abbrev st__law_few : Stmt := topS 28
theorem sc__law_few : FnScope ["_law_some"] [] (defScope st__law_few) := ⟨rfl, rfl, rfl, by decide +kernel, rfl, by decide +kernel, by decide +kernel⟩
abbrev st_check_heaps : Stmt := topS 8
theorem sc_check_heaps : FnScope ["heaps", "heap"] ["heaps"] (defScope st_check_heaps) := ⟨rfl, rfl, rfl, by decide +kernel, rfl, by decide +kernel, by decide +kernel⟩
abbrev st__law_in : Stmt := topS 25
theorem sc__law_in : FnScope ["_law_text", "_law_found", "_law_word", "_law_place", "_law_colon", "_law_count", "_law_one"] ["_law_text"] (defScope st__law_in) := ⟨rfl, rfl, rfl, by decide +kernel, rfl, by decide +kernel, by decide +kernel⟩
abbrev st_read : Stmt := topS 14
theorem sc_read : FnScope ["text", "found", "word", "place", "colon", "count"] ["text"] (defScope st_read) := ⟨rfl, rfl, rfl, by decide +kernel, rfl, by decide +kernel, by decide +kernel⟩
abbrev st_is_heap : Stmt := topS 7
theorem sc_is_heap : FnScope ["thing"] ["thing"] (defScope st_is_heap) := ⟨rfl, rfl, rfl, by decide +kernel, rfl, by decide +kernel, by decide +kernel⟩
abbrev st__law_number : Stmt := topS 24
theorem sc__law_number : FnScope ["_law_text", "_law_figures"] ["_law_text"] (defScope st__law_number) := ⟨rfl, rfl, rfl, by decide +kernel, rfl, by decide +kernel, by decide +kernel⟩
abbrev st_number_in : Stmt := topS 13
theorem sc_number_in : FnScope ["word", "figures"] ["word"] (defScope st_number_in) := ⟨rfl, rfl, rfl, by decide +kernel, rfl, by decide +kernel, by decide +kernel⟩
abbrev st_is_whole : Stmt := topS 6
theorem sc_is_whole : FnScope ["thing"] ["thing"] (defScope st_is_whole) := ⟨rfl, rfl, rfl, by decide +kernel, rfl, by decide +kernel, by decide +kernel⟩
theorem kit_self {K : PySem.W.Frag} {C : Addr} : PySem.W.kitOne K (.ref C) (.ref C) = some true := by
  unfold PySem.W.kitOne
  rw [if_pos (by simp)]
/-- a def of the top, under its name -/
structure DefAt (K : PySem.W.Frag) (mg : Str → Option Value) (x : Str) (st : Stmt) (ps : List Str) : Prop where
  ex : ∃ (f : Addr) (fd : FuncData), L2.Fun K x x st f fd ∧ mg x = some (.ref f) ∧ Binds K fd ps []
/-- a method of the class at C -/
structure MethAt (K : PySem.W.Frag) (C : Addr) (m qual : Str) (st : Stmt) (ps : List Str) : Prop where
  ex : ∃ (f : Addr) (fd : FuncData), L2.Fun K m qual st f fd ∧ Meth K C m f ∧ Binds K fd ps []
/-- a class that is called: its __init__ -/
structure InitAt (K : PySem.W.Frag) (C : Addr) (qual : Str) (st : Stmt) (ps : List Str) : Prop where
  ex : ∃ (f : Addr) (fd : FuncData), L2.Fun K "__init__" qual st f fd ∧ Mk K C f ∧ Binds K fd ps []
/-- an own exception class without an __init__ -/
structure ExcAt (K : PySem.W.Frag) (mg : Str → Option Value) (x : Str) (C : Addr) : Prop where
  gP : mg x = some (.ref C)
  bP : PySem.W.subIn K (.ref C) (.type "BaseException") = some true
  tP : PySem.W.typeIn K (.ref C) = some (.type "type")
  kP : PySem.W.keepIn K (.ref C) = true
  iP : PySem.W.isClsIn K C = true
  dP : PySem.W.hasDictIn K C = true
  vP : PySem.W.subIn K (.ref C) (.type "ValueError") = some true
  xP : PySem.W.excIn K C [.type "ValueError", .type "Exception", .type "BaseException", .type "object"] "ValueError.__new__" = true
  hg : PySem.W.findIn K (.ref C) "__getattribute__" = some (some (.builtin "BaseException.__getattribute__"))
  hk : PySem.W.findIn K (.ref C) "__getattr__" = some none
  ha : PySem.W.findIn K (.ref C) "__class__" = some (some (.builtin "object.__class__"))
  hm : PySem.W.mroIn K C (.type "object") = some true
/-- what the top has left -/
structure Top (K : PySem.W.Frag) (mg : Str → Option Value) : Prop where
  d__law_heaps : DefAt K mg "_law_heaps" st__law_heaps ["_law_script"]
  d__law_cell_at : DefAt K mg "_law_cell_at" st__law_cell_at ["_law_script", "_law_k"]
  d__law_draw : DefAt K mg "_law_draw" st__law_draw ["_law_cell", "_law_k", "_law_many"]
  d_written : DefAt K mg "written" st_written ["heaps"]
  d__law_right : DefAt K mg "_law_right" st__law_right ["_law_text"]
  d__law_refused : DefAt K mg "_law_refused" st__law_refused ["_law_text"]
  d__law_few : DefAt K mg "_law_few" st__law_few []
  d_check_heaps : DefAt K mg "check_heaps" st_check_heaps ["heaps"]
  d__law_in : DefAt K mg "_law_in" st__law_in ["_law_text"]
  d_read : DefAt K mg "read" st_read ["text"]
  d_is_heap : DefAt K mg "is_heap" st_is_heap ["thing"]
  d__law_number : DefAt K mg "_law_number" st__law_number ["_law_text"]
  d_number_in : DefAt K mg "number_in" st_number_in ["word"]
  d_is_whole : DefAt K mg "is_whole" st_is_whole ["thing"]
  m_list : mg "list" = none
  m_range : mg "range" = none
  m_all : mg "all" = none
  m_len : mg "len" = none
  m_str : mg "str" = none
  m_abs : mg "abs" = none
  m_isinstance : mg "isinstance" = none
  m_ValueError : mg "ValueError" = none
  m_any : mg "any" = none
  m_tuple : mg "tuple" = none
  m_int : mg "int" = none
  m_bool : mg "bool" = none
structure TopX (K : PySem.W.Frag) (mg : Str → Option Value) (C_HeapError : Addr) (C_BadHeaps : Addr) (C_BadPlace : Addr) (C_BadText : Addr) : Prop where
  x_HeapError : ExcAt K mg "HeapError" C_HeapError
  x_BadHeaps : ExcAt K mg "BadHeaps" C_BadHeaps
  x_BadPlace : ExcAt K mg "BadPlace" C_BadPlace
  x_BadText : ExcAt K mg "BadText" C_BadText
  s_HeapError_HeapError : PySem.W.subIn K (.ref C_HeapError) (.ref C_HeapError) = some true
  s_HeapError_BadHeaps : PySem.W.subIn K (.ref C_HeapError) (.ref C_BadHeaps) = some false
  s_HeapError_BadPlace : PySem.W.subIn K (.ref C_HeapError) (.ref C_BadPlace) = some false
  s_HeapError_BadText : PySem.W.subIn K (.ref C_HeapError) (.ref C_BadText) = some false
  s_BadHeaps_HeapError : PySem.W.subIn K (.ref C_BadHeaps) (.ref C_HeapError) = some true
  s_BadHeaps_BadHeaps : PySem.W.subIn K (.ref C_BadHeaps) (.ref C_BadHeaps) = some true
  s_BadHeaps_BadPlace : PySem.W.subIn K (.ref C_BadHeaps) (.ref C_BadPlace) = some false
  s_BadHeaps_BadText : PySem.W.subIn K (.ref C_BadHeaps) (.ref C_BadText) = some false
  s_BadPlace_HeapError : PySem.W.subIn K (.ref C_BadPlace) (.ref C_HeapError) = some true
  s_BadPlace_BadHeaps : PySem.W.subIn K (.ref C_BadPlace) (.ref C_BadHeaps) = some false
  s_BadPlace_BadPlace : PySem.W.subIn K (.ref C_BadPlace) (.ref C_BadPlace) = some true
  s_BadPlace_BadText : PySem.W.subIn K (.ref C_BadPlace) (.ref C_BadText) = some false
  s_BadText_HeapError : PySem.W.subIn K (.ref C_BadText) (.ref C_HeapError) = some true
  s_BadText_BadHeaps : PySem.W.subIn K (.ref C_BadText) (.ref C_BadHeaps) = some false
  s_BadText_BadPlace : PySem.W.subIn K (.ref C_BadText) (.ref C_BadPlace) = some false
  s_BadText_BadText : PySem.W.subIn K (.ref C_BadText) (.ref C_BadText) = some true
  sN : PySem.W.specialIn K (.builtin "object.__class__") "__get__" = some (some (.builtin "getset_descriptor.__get__"))
  sT : PySem.W.takesIn K (.builtin "object.__class__") = some true
  k_MOST : ∃ t, mg "MOST" = some (.int 1000000000000000000000000000000000000000000000000000000000000 t)
  k_FIGURES : ∃ t, mg "FIGURES" = some (.str "0123456789" t)
end Wk
/-! the walk, part A: data in the heap; is_whole, is_heap, check_heaps, ends_of -/
namespace Wk
open PySem PySem.Spec PyProof.Rows L2 Spr
/-! ### data -/
/-- all tuples stand -/
def Tp (H H' : Hp) : Prop := ∀ b xs, H b = some (.tup xs) → H' b = some (.tup xs)
theorem Tp.refl (H : Hp) : Tp H H := fun _ _ h => h
theorem Tp.trans {H H1 H2 : Hp} (a : Tp H H1) (b : Tp H1 H2) : Tp H H2 := fun c xs h => b c xs (a c xs h)
theorem same_tp {H H' : Hp} (s : Same H H') : Tp H H' := fun b xs h => s b _ h
theorem same_new {H : Hp} {p : Addr} {o : HO} (h : H p = none) : Same H (upd H p o) := fun b x e => by
  rw [upd_ne (ne_of_none e h)]
  exact e
/-- a thing that H did not know may change -/
theorem same_mut {H H' : Hp} {p : Addr} {o : HO} (s : Same H H') (h : H p = none) : Same H (upd H' p o) := fun b x e => by
  rw [upd_ne (ne_of_none e h)]
  exact s b x e
theorem tp_new {H : Hp} {p : Addr} {o : HO} (h : H p = none) : Tp H (upd H p o) := same_tp (same_new h)
theorem tp_mut {H : Hp} {p : Addr} {o : HO} {xs : List V} (h : H p = some (.lst xs)) : Tp H (upd H p o) := fun b ys e => by
  rw [upd_ne (ne_of e h (fun z => nomatch z))]
  exact e
/-- a pair of ints -/
def PT (H : Hp) (v : V) (h : I2) : Prop := ∃ t, v = .ref t ∧ H t = some (.tup [.int h.1, .int h.2])
theorem PT.mono {H H' : Hp} (s : Tp H H') {v : V} {h : I2} (p : PT H v h) : PT H' v h := by
  obtain ⟨t, e, q⟩ := p
  exact ⟨t, e, s _ _ q⟩
abbrev PTs (H : Hp) (xs : List V) (hs : List I2) : Prop := Paired (PT H) xs hs
theorem PTs.mono {H H' : Hp} (s : Tp H H') {xs : List V} {hs : List I2} (p : PTs H xs hs) : PTs H' xs hs := Paired.mapP p fun _ _ q => q.mono s
section
variable {α β : Type} {R : α → β → Prop}
theorem pr_len {xs : List α} {ys : List β} (p : Paired R xs ys) : xs.length = ys.length := Paired.length p
theorem pr_get : ∀ {xs : List α} {ys : List β} {i : Nat} {x : α}, Paired R xs ys → xs[i]? = some x → ∃ y, ys[i]? = some y ∧ R x y
  | _, _, _, _, .nil, e => by simp at e
  | _, _, 0, _, .cons r _, e => by simp at e; subst e; exact ⟨_, rfl, r⟩
  | _, _, i + 1, x, .cons _ t, e => by
    obtain ⟨u, h1, h2⟩ := pr_get (i := i) (x := x) t (by simpa using e)
    exact ⟨u, by simpa using h1, h2⟩
theorem pr_get2 : ∀ {xs : List α} {ys : List β} {i : Nat} {y : β}, Paired R xs ys → ys[i]? = some y → ∃ x, xs[i]? = some x ∧ R x y
  | _, _, _, _, .nil, e => by simp at e
  | _, _, 0, _, .cons r _, e => by simp at e; subst e; exact ⟨_, rfl, r⟩
  | _, _, i + 1, y, .cons _ t, e => by
    obtain ⟨u, h1, h2⟩ := pr_get2 (i := i) (y := y) t (by simpa using e)
    exact ⟨u, by simpa using h1, h2⟩
theorem pr_app : ∀ {xs xs' : List α} {ys ys' : List β}, Paired R xs ys → Paired R xs' ys' → Paired R (xs ++ xs') (ys ++ ys')
  | _, _, _, _, .nil, q => q
  | _, _, _, _, .cons r p, q => .cons r (pr_app p q)
theorem pr_take : ∀ {xs : List α} {ys : List β} (n : Nat), Paired R xs ys → Paired R (xs.take n) (ys.take n)
  | _, _, 0, _ => .nil
  | _, _, _ + 1, .nil => .nil
  | _, _, n + 1, .cons r t => .cons r (pr_take n t)
theorem pr_drop : ∀ {xs : List α} {ys : List β} (n : Nat), Paired R xs ys → Paired R (xs.drop n) (ys.drop n)
  | _, _, 0, r => r
  | _, _, _ + 1, .nil => .nil
  | _, _, n + 1, .cons _ t => pr_drop n t
theorem pr_rev : ∀ {xs : List α} {ys : List β}, Paired R xs ys → Paired R xs.reverse ys.reverse
  | _, _, .nil => .nil
  | _, _, .cons r t => by
    rw [List.reverse_cons, List.reverse_cons]
    exact pr_app (pr_rev t) (.cons r .nil)
theorem pr_mem : ∀ {xs : List α} {ys : List β} {x : α}, Paired R xs ys → x ∈ xs → ∃ y ∈ ys, R x y
  | _, _, _, .nil, m => nomatch m
  | _, _, x, .cons r t, m => by
    rcases List.mem_cons.mp m with e | m
    · subst e; exact ⟨_, List.mem_cons_self, r⟩
    · obtain ⟨y, my, q⟩ := pr_mem t m
      exact ⟨y, List.mem_cons_of_mem _ my, q⟩
theorem pr_snoc {xs : List α} {ys : List β} {x : α} {y : β} (p : Paired R xs ys) (r : R x y) : Paired R (xs ++ [x]) (ys ++ [y]) := pr_app p (.cons r .nil)
theorem pr_split : ∀ {xs : List α} {ys : List β} {y : β}, Paired R xs (ys ++ [y]) → ∃ xs' x, xs = xs' ++ [x] ∧ Paired R xs' ys ∧ R x y
  | _, [], _, .cons r .nil => ⟨[], _, rfl, .nil, r⟩
  | _, z :: ys, y, .cons r t => by
    obtain ⟨xs', x, e, p, q⟩ := pr_split (ys := ys) t
    subst e
    exact ⟨_ :: xs', x, rfl, .cons r p, q⟩
end
/-- a list of pairs of ints, its own or handed in -/
def PL (H : Hp) (a : Addr) (hs : List I2) : Prop := ∃ xs, H a = some (.lst xs) ∧ PTs H xs hs
theorem PL.mono {H H' : Hp} (s : Same H H') {a : Addr} {hs : List I2} (p : PL H a hs) : PL H' a hs := by
  obtain ⟨xs, e, q⟩ := p
  exact ⟨xs, s _ _ e, q.mono (same_tp s)⟩
/-- heaps in reach: counts 0 or more, nothing beyond 2 ^ 200, a thousand at most -/
structure HB (hs : List I2) : Prop where
  len : hs.length ≤ 1000
  pos : ∀ h ∈ hs, 0 ≤ h.2
  w1 : ∀ h ∈ hs, h.1.natAbs < 2 ^ 200
  w2 : ∀ h ∈ hs, h.2.natAbs < 2 ^ 200
/-! ### great numbers -/
def Wd (k : Nat) (i : Int) : Prop := i.natAbs < 2 ^ k
theorem Wd.mono {a b : Nat} {i : Int} (h : Wd a i) (e : a ≤ b) : Wd b i := Nat.lt_of_lt_of_le h (Nat.pow_le_pow_right (by decide) e)
theorem Wd.mul {a b : Nat} {i j : Int} (h : Wd a i) (g : Wd b j) : Wd (a + b) (i * j) := wide_lt h g
theorem Wd.add {a b : Nat} {i j : Int} (h : Wd a i) (g : Wd b j) : Wd (a + b + 1) (i + j) := by
  have h1 : i.natAbs < 2 ^ a := h
  have h2 : j.natAbs < 2 ^ b := g
  have e1 : 2 ^ a ≤ 2 ^ (a + b) := Nat.pow_le_pow_right (by decide) (by omega)
  have e2 : 2 ^ b ≤ 2 ^ (a + b) := Nat.pow_le_pow_right (by decide) (by omega)
  show (i + j).natAbs < 2 ^ (a + b + 1)
  rw [Nat.pow_succ]
  omega
theorem Wd.neg {a : Nat} {i : Int} (h : Wd a i) : Wd a (-i) := by
  show (-i).natAbs < 2 ^ a
  rw [Int.natAbs_neg]
  exact h
theorem Wd.sub {a b : Nat} {i j : Int} (h : Wd a i) (g : Wd b j) : Wd (a + b + 1) (i - j) := by
  rw [Int.sub_eq_add_neg]
  exact h.add g.neg
theorem Wd.div {a : Nat} {i : Int} (h : Wd a i) (j : Int) : Wd a (i / j) := by
  have h1 : i.natAbs < 2 ^ a := h
  show (i / j).natAbs < 2 ^ a
  exact Nat.lt_of_le_of_lt (Int.natAbs_ediv_le_natAbs _ _) h1
theorem Wd.cmul {a b : Nat} {i j : Int} (h : Wd a i) (g : Wd b j) (h0 : 0 < a := by decide) (h1 : 0 < b := by decide) (e : a + b ≤ 1000000 := by decide) : CMulW i j := wide_mul h g h0 h1 e
/-! ### a def by its body -/
section
variable {P : Program} {w : World} {K : PySem.W.Frag} {mg : Str → Option Value} {base : Heap}
theorem DefAt.cal {x : Str} {st : Stmt} {N ps : List Str} {k : Nat} {sp : Sp} (D : DefAt K mg x st ps) (S : FnScope N ps (defScope st)) (len : ∀ vs H Q E, sp vs H Q E → vs.length = ps.length)
    (hbody : ∀ (f : Addr) (cdv : Value) (A : Around) (outer : List Env) (s : Shared) (H : Hp) (vs : List V) (Q : VK) (E : XK), Room k (A.deeper (envOfC x (defScope st) s.heap.objs.size f cdv)) → sp vs H Q E →
      ∃ t, PSs (cxOf CX0 P w K mg base N x (defScope st) f cdv A outer s H E).nox (defBody st) t ∧ t { nx := fun _ H' => Q .non H', rt := Q } (start N vs) H) : C8.Cal P w K mg base (k + 1) x sp [] := by
  obtain ⟨f, fd, F, hm, b⟩ := D.ex
  exact ⟨f, fd, ps, [], F.ok S len (fun cdv A outer s H vs Q E hr h => hbody f cdv A outer s H vs Q E hr h), hm, F.kp, b, .nil⟩
/-! ### is_whole -/
def isi (a b : String) : Bool := (kitB a b).getD false
def spWhole (K : PySem.W.Frag) : Sp := fun vs H Q _ => ∃ x n, vs = [x] ∧ TyX K H x (.type n) ∧ n ∈ ["NoneType", "bool", "int", "str", "list", "tuple", "dict"] ∧ Q (.bl (n == "int")) H
theorem cal_is_whole (T : Top K mg) : C8.Cal P w K mg base 1 "is_whole" (spWhole K) [] := by
  refine T.d_is_whole.cal sc_is_whole (fun vs H Q E h => ?_) (fun f cdv A outer s H vs Q E hr h => ?_)
  · obtain ⟨x, n, rfl, _⟩ := h
    rfl
  · obtain ⟨x, n, rfl, ty, hn, q⟩ := h
    refine ⟨_, (pss_one (ps_ret (pe_and (pe_callB call_isi (by rfl) T.m_isinstance (by decide +kernel) (pa_cons (pv 0) (pa_cons (pe_bltn (v := .ty "int") (by rfl) T.m_int (by decide +kernel) rfl) pa_nil))) (pe_one (pe_not (pe_callB call_isi (by rfl) T.m_isinstance (by decide +kernel) (pa_cons (pv 0) (pa_cons (pe_bltn (v := .ty "bool") (by rfl) T.m_bool (by decide +kernel) rfl) pa_nil)))))))), ?_⟩
    obtain ⟨b, c, hb, hc, e⟩ : ∃ b c : Bool, kitB n "int" = some b ∧ kitB n "bool" = some c ∧ (b && !c) = (n == "int") := by
      simp only [List.mem_cons, List.not_mem_nil, or_false] at hn
      rcases hn with rfl | rfl | rfl | rfl | rfl | rfl | rfl
      · exact ⟨false, false, by decide +kernel⟩
      · exact ⟨true, true, by decide +kernel⟩
      · exact ⟨true, false, by decide +kernel⟩
      · exact ⟨false, false, by decide +kernel⟩
      · exact ⟨false, false, by decide +kernel⟩
      · exact ⟨false, false, by decide +kernel⟩
      · exact ⟨false, false, by decide +kernel⟩
    refine ⟨x, rfl, x, .ty "int", .type n, .type "int", b, rfl, .ty "int", ty, kit_ty hb, b, rfl, ?_⟩
    cases b with
    | false =>
      refine iteF ?_
      rw [← e] at q
      exact q
    | true =>
      refine iteT ?_
      refine ⟨x, rfl, x, .ty "bool", .type n, .type "bool", c, rfl, .ty "bool", ty, kit_ty hc, c, rfl, ?_⟩
      rw [← e] at q
      exact q
/-! ### is_heap -/
def isHeapD : PyData → Bool
  | .tuple [.int _, .int c] => decide (0 ≤ c)
  | _ => false
def tyD : PyData → String
  | .none => "NoneType"
  | .bool _ => "bool"
  | .int _ => "int"
  | .str _ => "str"
  | .list _ => "list"
  | .tuple _ => "tuple"
  | .dict _ => "dict"
theorem tyD_mem (d : PyData) : tyD d ∈ ["NoneType", "bool", "int", "str", "list", "tuple", "dict"] := by cases d <;> simp [tyD]
theorem dp_ty {H : Hp} {v : V} {d : PyData} (h : Dp K H v d) : TyX K H v (.type (tyD d)) := by
  cases h with
  | non => exact .base .non
  | bl b => exact .base (.bl b)
  | int i => exact .base (.int i)
  | str x => exact .base (.str x)
  | lst hs _ =>
    rcases hs with (h | ⟨o, h⟩) | ⟨o, its, n, h1, h2, _⟩
    · exact .base (.lst h)
    · exact .base (.frz h)
    · exact .kList h1 h2
  | tup hs _ =>
    rcases hs with (h | ⟨o, h⟩) | ⟨o, its, n, h1, h2, _⟩
    · exact .base (.tup h)
    · exact .fTuple h
    · exact .kTuple h1 h2
theorem dp_len {H : Hp} : ∀ {xs : List V} {ds : List PyData}, DpAll K H xs ds → xs.length = ds.length
  | _, _, .nil => rfl
  | _, _, .cons _ t => congrArg (· + 1) (dp_len t)
def spHeap (K : PySem.W.Frag) : Sp := fun vs H Q _ => ∃ v d, vs = [v] ∧ Dp K H v d ∧ Q (.bl (isHeapD d)) H
theorem cal_is_heap (T : Top K mg) : C8.Cal P w K mg base 2 "is_heap" (spHeap K) [] := by
  have c_is_whole : C8.Cal P w K mg base 1 "is_whole" (spWhole K) [] := cal_is_whole T
  refine T.d_is_heap.cal sc_is_heap (fun vs H Q E h => ?_) (fun f cdv A outer s H vs Q E hr h => ?_)
  · obtain ⟨v, d, rfl, _⟩ := h
    rfl
  · obtain ⟨v, d, rfl, dp, q⟩ := h
    refine ⟨_, (pss_cons (ps_if (PW.pt (pw_or (pt_not (pt_val (pe_callB call_isi (by rfl) T.m_isinstance (by decide +kernel) (pa_cons (pv 0) (pa_cons (pe_bltn (v := .ty "tuple") (by rfl) T.m_tuple (by decide +kernel) rfl) pa_nil))))) (pw_or (pt_cmpR op_ne (pe_callB call_len_seq (by rfl) T.m_len (by decide +kernel) (pa_cons (pv 0) pa_nil)) pe_int (nomark _)) (pw_or (pt_not (pt_val (C8.pe_c c_is_whole hr (by decide) (by rfl) (pa_cons (pe_ix ix_tup (pv 0) pe_int (fun _ _ => rfl)) pa_nil)))) (pw_or1 (pt_not (pt_val (C8.pe_c c_is_whole hr (by decide) (by rfl) (pa_cons (pe_ix ix_tup (pv 0) pe_int (fun _ _ => rfl)) pa_nil)))))))))
 (pss_one (ps_ret pe_bl))
 pss_nil)
 (pss_one (ps_ret (pe_cmpR op_ge (pe_ix ix_tup (pv 0) pe_int (fun _ _ => rfl)) pe_int (nomark _))))), ?_⟩
    have ty := dp_ty dp
    by_cases ht : ∃ ds, d = .tuple ds
    · obtain ⟨ds, rfl⟩ := ht
      cases dp with
      | @tup a xs _ hT hx =>
      refine ⟨_, rfl, _, .ty "tuple", .type "tuple", .type "tuple", true, rfl, .ty "tuple", ty, kit_ty (by decide +kernel), true, rfl, iteF ?_⟩
      refine ⟨_, rfl, a, xs, rfl, .inr hT, rfl, _, rfl, ?_⟩
      by_cases h2 : (V.int (xs.length : Int)) = V.int 2
      · have h3 : xs.length = 2 := by
          injection h2 with h2
          omega
        rw [decide_eq_true h2]
        refine iteF ?_
        obtain ⟨x0, x1, rfl⟩ : ∃ x0 x1, xs = [x0, x1] := by
          match xs, h3 with
          | [x0, x1], _ => exact ⟨x0, x1, rfl⟩
        cases hx with
        | cons d0 r0 =>
        cases r0 with
        | cons d1 r1 =>
        cases r1
        rename_i e0 e1
        refine ⟨_, rfl, a, _, 0, x0, rfl, rfl, hT, atI_nat (j := 0) rfl, x0, _, rfl, dp_ty d0, tyD_mem _, _, rfl, ?_⟩
        cases d0 with
        | int i =>
          refine iteF ?_
          refine ⟨_, rfl, a, _, 1, x1, rfl, rfl, hT, atI_nat (j := 1) rfl, x1, _, rfl, dp_ty d1, tyD_mem _, _, rfl, ?_⟩
          cases d1 with
          | int j =>
            refine iteF ?_
            exact ⟨_, rfl, a, _, 1, _, rfl, rfl, hT, atI_nat (j := 1) rfl, j, 0, rfl, rfl, q⟩
          | non => exact iteT q
          | bl b => exact iteT q
          | str x => exact iteT q
          | lst _ _ => exact iteT q
          | tup _ _ => exact iteT q
        | non => exact iteT (iteT q)
        | bl b => exact iteT (iteT q)
        | str x => exact iteT (iteT q)
        | lst _ _ => exact iteT (iteT q)
        | tup _ _ => exact iteT (iteT q)
      · rw [decide_eq_false h2]
        refine iteT (iteT ?_)
        have e : isHeapD (.tuple ds) = false := by
          have hl := dp_len hx
          match ds, hl with
          | [], _ => rfl
          | [d0], _ => cases d0 <;> rfl
          | [_, _], hl => exact absurd (congrArg (fun n : Nat => V.int (n : Int)) hl) h2
          | d0 :: d1 :: d2 :: r, _ => cases d0 <;> first | rfl | (cases d1 <;> rfl)
        rw [e] at q
        exact q
    · have e : isHeapD d = false := by
        cases d with
        | tuple ds => exact absurd ⟨ds, rfl⟩ ht
        | _ => rfl
      have hb : kitB (tyD d) "tuple" = some false := by
        cases d with
        | tuple ds => exact absurd ⟨ds, rfl⟩ ht
        | none => decide +kernel
        | bool b => show kitB "bool" "tuple" = _; decide +kernel
        | int b => show kitB "int" "tuple" = _; decide +kernel
        | str b => show kitB "str" "tuple" = _; decide +kernel
        | list b => show kitB "list" "tuple" = _; decide +kernel
        | dict b => show kitB "dict" "tuple" = _; decide +kernel
      rw [e] at q
      exact ⟨_, rfl, _, .ty "tuple", .type (tyD d), .type "tuple", false, rfl, .ty "tuple", ty, kit_ty hb, false, rfl, iteT (iteT q)⟩
/-! ### check_heaps, of heaps -/
def pairD (h : I2) : PyData := .tuple [.int h.1, .int h.2]
theorem PTs.dp {H : Hp} : ∀ {xs : List V} {hs : List I2}, PTs H xs hs → DpAll K H xs (hs.map pairD)
  | _, _, .nil => .nil
  | _, _, .cons r t => by
    obtain ⟨a, rfl, e⟩ := r
    exact .cons (.tup (SqT.of e) (.cons (.int _) (.cons (.int _) .nil))) (PTs.dp t)
theorem PL.dp {H : Hp} {a : Addr} {hs : List I2} (p : PL H a hs) : Dp K H (.ref a) (.list (hs.map pairD)) := by
  obtain ⟨xs, e, q⟩ := p
  exact .lst (SqL.of e) q.dp
def spCheck (K : PySem.W.Frag) : Sp := fun vs H Q _ => ∃ v ds, vs = [v] ∧ Dp K H v (.list ds) ∧ ds.all isHeapD = true ∧ ds.length < 100000 ∧ ∀ H', Same H H' → Q .non H'
theorem dpAll_get {H : Hp} : ∀ {xs : List V} {ds : List PyData} {i : Nat} {x : V}, DpAll K H xs ds → xs[i]? = some x → ∃ d, ds[i]? = some d ∧ Dp K H x d
  | _, _, _, _, .nil, e => by simp at e
  | _, _, 0, _, .cons r _, e => by simp at e; subst e; exact ⟨_, rfl, r⟩
  | _, _, i + 1, x, .cons _ t, e => by
    obtain ⟨u, h1, h2⟩ := dpAll_get (i := i) (x := x) t (by simpa using e)
    exact ⟨u, by simpa using h1, h2⟩
theorem same_sqL {H H' : Hp} (s : Same H H') {a : Addr} {xs : List V} (h : SqL K H a xs) : SqL K H' a xs := s.seq h
theorem same_sqT {H H' : Hp} (s : Same H H') {a : Addr} {xs : List V} (h : SqT K H a xs) : SqT K H' a xs := by
  rcases h with (h | ⟨o, h⟩) | h
  · exact .inl (.inl (s _ _ h))
  · exact .inl (.inr ⟨o, s _ _ h⟩)
  · exact .inr h
mutual
theorem dp_mono {H H' : Hp} (s : Same H H') : ∀ {d : PyData} {v : V}, Dp K H v d → Dp K H' v d
  | _, _, .non => .non
  | _, _, .bl b => .bl b
  | _, _, .int i => .int i
  | _, _, .str x => .str x
  | _, _, .lst h t => .lst (same_sqL s h) (dpAll_mono s t)
  | _, _, .tup h t => .tup (same_sqT s h) (dpAll_mono s t)
theorem dpAll_mono {H H' : Hp} (s : Same H H') : ∀ {ds : List PyData} {vs : List V}, DpAll K H vs ds → DpAll K H' vs ds
  | _, _, .nil => .nil
  | _, _, .cons r t => .cons (dp_mono s r) (dpAll_mono s t)
end
theorem take_snoc {α : Type} {l : List α} {i : Nat} {x : α} (h : l[i]? = some x) : l.take (i + 1) = l.take i ++ [x] := by
  rw [List.take_add_one, h]
  rfl
theorem yesT {σ : L2.St} {H : Hp} {A B : Hp → Prop} (h : A H) : tYes σ H fun b H3 => if b = true then A H3 else B H3 := by
  show (if true = true then A H else B H)
  rw [if_pos rfl]
  exact h
theorem cal_check_heaps (T : Top K mg) : C8.Cal P w K mg base 3 "check_heaps" (spCheck K) [] := by
  have c_is_heap : C8.Cal P w K mg base 2 "is_heap" (spHeap K) [] := cal_is_heap T
  refine T.d_check_heaps.cal sc_check_heaps (fun vs H Q E h => ?_) (fun f cdv A outer s H vs Q E hr h => ?_)
  · obtain ⟨v, d, rfl, _⟩ := h
    rfl
  · obtain ⟨v, ds, rfl, dp, hall, hlen, q⟩ := h
    refine ⟨_, (pss_one (ps_if (PW.pt (pw_or (pt_not (pt_val (pe_callB call_isi (by rfl) T.m_isinstance (by decide +kernel) (pa_cons (pv 0) (pa_cons (pe_bltn (v := .ty "list") (by rfl) T.m_list (by decide +kernel) rfl) pa_nil))))) (pw_or1 (pt_not (pt_val (pe_callB (cr_all rfl) (by rfl) T.m_all (by decide +kernel) (pa_cons (pe_lc (own := [("heap", 1)]) (g := (gName 1)) rfl sc_check_heaps.nd (pi_list (pv 0)) (blkOk_by (own := [("heap", 1)]) (N := ["heaps", "heap"]) (sc := defScope st_check_heaps) (by decide +kernel)) (fun _ _ _ _ _ => (pg_name (i := 1) sc_check_heaps.nd rfl (Or.inl rfl))) (fun _ _ _ _ _ => pts_nil) (fun _ _ _ _ _ => (C8.pe_c c_is_heap hr (by decide) (by rfl) (pa_cons (pv 1) pa_nil)))) pa_nil)))))))
 (pss_one ps_never)
 pss_nil)), ?_⟩
    have ty := dp_ty dp
    cases dp with
    | @lst a xs _ hL hx =>
    have lx := dp_len hx
    refine ⟨_, rfl, _, .ty "list", .type "list", .type "list", true, rfl, .ty "list", ty, kit_ty (by decide +kernel), true, rfl, iteF ?_⟩
    -- [is_heap(heap) for heap in heaps]
    refine ⟨_, rfl, a, rfl, ⟨_, hL⟩, fun D nD => ?_⟩
    refine lc_list (K := K) (a := a) (xs := xs) (fun i H1 => Same H H1 ∧ H1 D = some (.lst (((ds.take i).map isHeapD).map V.bl))) ⟨same_new nD, by rw [upd_same]; rfl⟩ (fun i H1 _ p => p.1.seq hL) ?_ ?_
    · rintro i x H1 hi ⟨s1, e1⟩
      obtain ⟨d, hd, dx⟩ := dpAll_get hx hi
      have hil : i < ds.length := (List.getElem?_eq_some_iff.mp hd).1
      refine ⟨rfl, yesT ?_⟩
      refine ⟨x, rfl, x, d, rfl, dp_mono s1 dx, _, e1, ?_, same_mut s1 nD, ?_⟩
      · rw [List.length_map, List.length_map, List.length_take]
        exact Evl.sz_lt (by omega)
      · rw [upd_same, take_snoc hd, List.map_append, List.map_append]
        rfl
    · rintro H1 ⟨s1, e1⟩
      refine ⟨D, (ds.take xs.length).map isHeapD, rfl, SqL.of e1, _, rfl, ?_⟩
      rw [lx, List.take_length, List.all_map]
      have e : ds.all (id ∘ isHeapD) = true := hall
      rw [e]
      exact iteF (q H1 s1)
end
end Wk
/-! the walk, part B: ends_of, clusters_of, stretches_of -/
namespace Wk
open PySem PySem.Spec PyProof.Rows L2 Spr
section
variable {P : Program} {w : World} {K : PySem.W.Frag} {mg : Str → Option Value} {base : Heap}
def optV : Option Int → V
  | none => .non
  | some e => .int e
theorem wd1 : Wd 1 1 := by unfold Wd; decide
theorem divp_wd {i j : Int} {a : Nat} (hj : 0 < j) (h : Wd a i) (h0 : 0 < a) (ha : a ≤ 3000) : CDivP i j := by
  refine divp_ok hj ?_
  have x := PySem.Flt.log2_lt_of h0 h
  unfold Builtin.Int.intBits
  split <;> split <;> omega
def spEnds : Sp := fun vs H Q _ => ∃ n b : Int, vs = [.int n, .int b] ∧ 0 < n ∧ Wd 220 n ∧ Wd 460 b ∧
  ∀ H' p, Same H H' → H p = none → H' p = some (.tup [.int (firstOf (n, b)), .int (lastOf (n, b)), optV (emptyOf (n, b))]) → Q (.ref p) H'
/-! ### sorted -/
/-- the pair that stands at v -/
def kOf (H : Hp) (v : V) : I2 := match v with
  | .ref t => (match H t with | some (.tup [.int a, .int b]) => (a, b) | _ => (0, 0))
  | _ => (0, 0)
theorem PT.key {H : Hp} {v : V} {h : I2} (p : PT H v h) : kOf H v = h := by
  obtain ⟨t, rfl, e⟩ := p
  show (match H t with | some (.tup [.int a, .int b]) => (a, b) | _ => (0, 0)) = h
  rw [e]
theorem PTs.key {H : Hp} : ∀ {xs : List V} {hs : List I2}, PTs H xs hs → xs.map (kOf H) = hs
  | _, _, .nil => rfl
  | _, _, .cons r t => by rw [List.map_cons, r.key, PTs.key t]
theorem PTs.of_map {H : Hp} : ∀ {xs : List V}, (∀ x ∈ xs, ∃ h, PT H x h) → PTs H xs (xs.map (kOf H))
  | [], _ => .nil
  | x :: xs, h => by
    obtain ⟨k, p⟩ := h x List.mem_cons_self
    have e := p.key
    rw [List.map_cons, e]
    exact .cons p (PTs.of_map fun y m => h y (List.mem_cons_of_mem _ m))
/-- what sorted gives of pairs -/
theorem sorted_is {H : Hp} {xs ys : List V} {hs : List I2} (p : PTs H xs hs) (h1 : SrtO.Srtd (ltP (kOf H)) ys) (h2 : SrtO.Stb (ltP (kOf H)) ys xs) : PTs H ys (srt hs) := by
  have e1 : (ys.map (kOf H)).Perm hs := by
    rw [← p.key]
    exact h2.perm.map _
  have e2 : (ys.map (kOf H)).Pairwise (fun a b => leP a b = true) := by
    refine List.pairwise_map.mpr (h1.imp fun {x y} q => ?_)
    have q2 := SrtO.lexB_no.mp (show SrtO.lexB (kOf H y) (kOf H x) = false from q)
    rw [leP_iff]
    omega
  have e3 := srt_of e1 e2
  rw [← e3]
  refine PTs.of_map fun y m => ?_
  obtain ⟨h, _, r⟩ := pr_mem p (h2.perm.mem_iff.mp m)
  exact ⟨h, r⟩
theorem PT.tup {H : Hp} {x : V} {h : I2} (p : PT H x h) : ∃ t, x = V.ref t ∧ H t = some (.tup [.int (kOf H x).1, .int (kOf H x).2]) := by
  have e := p.key
  obtain ⟨t, rfl, q⟩ := p
  exact ⟨t, rfl, by rw [e]; exact q⟩
/-! ### clusters_of -/
def clV (c : I2) : List V := [.int c.1, .int c.2, .int (firstOf c), .int (lastOf c), optV (emptyOf c)]
def CT (H : Hp) (v : V) (c : I2) : Prop := ∃ t, v = .ref t ∧ H t = some (.tup (clV c))
theorem CT.mono {H H' : Hp} (s : Tp H H') {v : V} {c : I2} (p : CT H v c) : CT H' v c := by
  obtain ⟨t, e, q⟩ := p
  exact ⟨t, e, s _ _ q⟩
abbrev CTs (H : Hp) (xs : List V) (cs : List I2) : Prop := Paired (CT H) xs cs
theorem CTs.mono {H H' : Hp} (s : Tp H H') {xs : List V} {cs : List I2} (p : CTs H xs cs) : CTs H' xs cs := Paired.mapP p fun _ _ q => q.mono s
def optD : Option Int → PyData
  | none => .none
  | some e => .int e
def clD (c : I2) : PyData := .tuple [.int c.1, .int c.2, .int (firstOf c), .int (lastOf c), optD (emptyOf c)]
theorem CTs.dp {H : Hp} : ∀ {xs : List V} {cs : List I2}, CTs H xs cs → DpAll K H xs (cs.map clD)
  | _, _, .nil => .nil
  | _, c :: _, .cons r t => by
    obtain ⟨a, rfl, e⟩ := r
    refine .cons (.tup (SqT.of e) (.cons (.int _) (.cons (.int _) (.cons (.int _) (.cons (.int _) (.cons ?_ .nil)))))) (CTs.dp t)
    cases emptyOf c with
    | none => exact .non
    | some e => exact .int e
theorem clD_lay (c : I2) : PyData.canLay0 (clD c) = true ∧ PyData.depth (clD c) = 1 := by
  unfold clD
  cases emptyOf c <;> exact ⟨rfl, rfl⟩
theorem pairD_lay (c : I2) : PyData.canLay0 (pairD c) = true ∧ PyData.depth (pairD c) = 1 := ⟨rfl, rfl⟩
theorem lay_map {f : I2 → PyData} (hf : ∀ c, PyData.canLay0 (f c) = true ∧ PyData.depth (f c) = 1) : ∀ cs : List I2, PyData.canLayAll0 (cs.map f) = true ∧ PyData.depthAll (cs.map f) ≤ 1
  | [] => ⟨rfl, Nat.zero_le _⟩
  | c :: cs => by
    obtain ⟨h1, h2⟩ := lay_map hf cs
    obtain ⟨g1, g2⟩ := hf c
    refine ⟨?_, ?_⟩
    · show (PyData.canLay0 (f c) && PyData.canLayAll0 (cs.map f)) = true
      rw [g1, h1]; rfl
    · show max (PyData.depth (f c)) (PyData.depthAll (cs.map f)) ≤ 1
      rw [g2]
      omega
theorem shaped_map {f : I2 → PyData} (hf : ∀ c, PyData.canLay0 (f c) = true ∧ PyData.depth (f c) = 1) (cs : List I2) : SeqAt.shaped (.list (cs.map f)) = true := by
  obtain ⟨h1, h2⟩ := lay_map hf cs
  unfold SeqAt.shaped
  rw [Bool.and_eq_true]
  refine ⟨h1, decide_eq_true ?_⟩
  show PyData.depthAll (cs.map f) + 1 ≤ 64
  omega
theorem shaped_nil : SeqAt.shaped (.list []) = true := by decide +kernel
theorem eqv_nil (f : I2 → PyData) : ∀ cs : List I2, PyData.eqv (.list (cs.map f)) (.list []) = decide (cs = [])
  | [] => by
    show PyData.eqvAll [] [] = _
    rw [PyData.eqvAll]; rfl
  | c :: cs => by
    show PyData.eqvAll (f c :: cs.map f) [] = _
    rw [PyData.eqvAll]; rfl
def CL (H : Hp) (a : Addr) (cs : List I2) : Prop := ∃ xs, H a = some (.lst xs) ∧ CTs H xs cs
theorem CL.mono {H H' : Hp} (s : Same H H') {a : Addr} {hs : List I2} (p : CL H a hs) : CL H' a hs := by
  obtain ⟨xs, e, q⟩ := p
  exact ⟨xs, s _ _ e, q.mono (same_tp s)⟩
theorem CL.dp {H : Hp} {a : Addr} {cs : List I2} (p : CL H a cs) : Dp K H (.ref a) (.list (cs.map clD)) := by
  obtain ⟨xs, e, q⟩ := p
  exact .lst (SqL.of e) q.dp
theorem put_pos {st : List I2} {x : I2} (h : 0 < x.2) : put st x = absorb st x.2 (x.2 * x.1) := if_pos h
theorem put_neg {st : List I2} {x : I2} (h : ¬ 0 < x.2) : put st x = st := if_neg h
theorem absorb_meet {c : I2} {st : List I2} {n b : Int} (h : firstOf (n, b) ≤ lastOf c) : absorb (c :: st) n b = absorb st (n + c.1) (b + c.2) := by
  rw [absorb, if_pos h]
theorem absorb_apart {c : I2} {st : List I2} {n b : Int} (h : ¬ firstOf (n, b) ≤ lastOf c) : absorb (c :: st) n b = (n, b) :: c :: st := by
  rw [absorb, if_neg h]
def spClus : Sp := fun vs H Q _ => ∃ a hs, vs = [.ref a] ∧ PL H a hs ∧ HB hs ∧ ∀ H' p, Same H H' → H p = none → CL H' p (clus hs) → Q (.ref p) H'
end
end Wk
/-! the walk, part C: stretches_of -/
namespace Wk
open PySem PySem.Spec PyProof.Rows L2 Spr
section
variable {P : Program} {w : World} {K : PySem.W.Frag} {mg : Str → Option Value} {base : Heap}
theorem joinp_len (acc : List I2) (p : I2) : (joinp acc p).length ≤ acc.length + 1 := by
  unfold joinp
  split
  · exact Nat.le_refl _
  · split
    · rw [List.length_cons, List.length_cons]; omega
    · exact Nat.le_refl _
theorem joins_len : ∀ (l acc : List I2), (l.foldl joinp acc).length ≤ acc.length + l.length
  | [], acc => Nat.le_refl _
  | p :: l, acc => by
    have h1 := joins_len l (joinp acc p)
    have h2 := joinp_len acc p
    rw [List.foldl_cons, List.length_cons]
    omega
theorem parts_len (c : I2) : (parts c).length ≤ 2 := by
  unfold parts
  split
  · exact Nat.le_succ 1
  · exact Nat.le_refl 2
theorem flat_len : ∀ l : List I2, (l.flatMap parts).length ≤ 2 * l.length
  | [] => Nat.le_refl _
  | c :: l => by
    have h1 := flat_len l
    have h2 := parts_len c
    rw [List.flatMap_cons, List.length_append, List.length_cons]
    omega
theorem HB.clus {hs : List I2} (h : HB hs) : PB hs.length (clusS (srt hs)) := by
  have := PB.nil.fold (l := srt hs) (fun y m => h.w1 y ((srt_perm hs).mem_iff.mp m)) (fun y m => h.w2 y ((srt_perm hs).mem_iff.mp m))
  rw [Nat.zero_add, (srt_perm hs).length_eq] at this
  exact this
theorem parts_none {c : I2} (e : emptyOf c = none) : parts c = [(firstOf c, lastOf c)] := by unfold parts; rw [e]
theorem parts_some {c : I2} {x : Int} (e : emptyOf c = some x) : parts c = [(firstOf c, x - 1), (x + 1, lastOf c)] := by unfold parts; rw [e]
def spStr : Sp := fun vs H Q _ => ∃ a hs, vs = [.ref a] ∧ PL H a hs ∧ HB hs ∧ ∀ H' p, Same H H' → H p = none → PL H' p (stretches hs) → Q (.ref p) H'
end
end Wk
/-! the walk, part D: the law's own cells, draws, heaps -/
namespace Wk
open PySem PySem.Spec PyProof.Rows L2 Spr
section
variable {P : Program} {w : World} {K : PySem.W.Frag} {mg : Str → Option Value} {base : Heap}
/-- a cell of the list: some number -/
def spCell (K : PySem.W.Frag) : Sp := fun vs H Q _ => ∃ (a : Addr) (ns : List Int) (k : Int), vs = [.ref a, .int k] ∧ SqL K H a (ns.map V.int) ∧ 0 ≤ k ∧ ∀ i : Int, Q (.int i) H
theorem ints_at {ns : List Int} {k : Int} (h0 : 0 ≤ k) (h : k < (ns.length : Int)) : ∃ z, ns[k.toNat]? = some z ∧ atI (ns.map V.int) k = some (.int z) := by
  have h1 : k.toNat < ns.length := by omega
  refine ⟨ns[k.toNat], List.getElem?_eq_getElem h1, ?_⟩
  refine at_of (j := k.toNat) (by omega) ?_
  rw [List.getElem?_map, List.getElem?_eq_getElem h1]
  rfl
theorem cal_cell_at (T : Top K mg) : C8.Cal P w K mg base 1 "_law_cell_at" (spCell K) [] := by
  refine T.d__law_cell_at.cal sc__law_cell_at (fun vs H Q E h => ?_) (fun f cdv A outer s H vs Q E hr h => ?_)
  · obtain ⟨a, ns, k, rfl, _⟩ := h
    rfl
  · obtain ⟨a, ns, k, rfl, hS, h0, q⟩ := h
    refine ⟨_, (pss_cons (ps_if (pt_cmpR op_lt (pv 1) (pe_callB call_len_seq (by rfl) T.m_len (by decide +kernel) (pa_cons (pv 0) pa_nil)) (nomark _))
 (pss_one (ps_ret (pe_ix ix_list (pv 0) (pv 1) (fun _ _ => rfl))))
 pss_nil)
 (pss_one (ps_ret pe_int))), ?_⟩
    refine ⟨_, rfl, _, rfl, a, _, rfl, .inl hS, _, _, rfl, rfl, _, rfl, ite2 (fun e => ?_) (fun e => ?_)⟩
    · have e1 : k < ((ns.map V.int).length : Int) := of_decide_eq_true e
      rw [List.length_map] at e1
      obtain ⟨z, _, hz⟩ := ints_at h0 e1
      exact ⟨_, rfl, _, rfl, a, _, k, _, rfl, rfl, hS, hz, q z⟩
    · exact q 0
/-- a draw: some number from 0 to below many -/
def spDraw : Sp := fun vs H Q _ => ∃ cell k many : Int, vs = [.int cell, .int k, .int many] ∧ 0 ≤ k ∧ 0 < many ∧ ∀ (r : Int) H', 0 ≤ r → r < many → Same H H' → Q (.int r) H'
def primesL : List Int := [1000003, 1000033, 1000037, 1000039, 1000081, 1000099, 1000117, 1000121, 1000133, 1000151, 1000159, 1000171, 1000183, 1000187, 1000193, 1000199]
theorem primes_pos : ∀ i : Nat, i < 16 → ∃ z : Int, primesL[i]? = some z ∧ 0 < z := by
  intro i hi
  have h : ∀ i : Nat, i < 16 → (primesL[i]?.getD 0 > 0 ∧ (primesL[i]?).isSome) := by decide +kernel
  obtain ⟨h1, h2⟩ := h i hi
  cases e : primesL[i]? with
  | none => rw [e] at h2; cases h2
  | some z => rw [e] at h1; exact ⟨z, rfl, h1⟩
theorem cal_draw (T : Top K mg) : C8.Cal P w K mg base 1 "_law_draw" spDraw [] := by
  refine T.d__law_draw.cal sc__law_draw (fun vs H Q E h => ?_) (fun f cdv A outer s H vs Q E hr h => ?_)
  · obtain ⟨a, ns, k, rfl, _⟩ := h
    rfl
  · obtain ⟨cell, k, many, rfl, h0, hm, q⟩ := h
    refine ⟨_, (pss_cons (ps_set (i := 3) sc__law_draw.nd rfl (Or.inl rfl) (pe_tup (pa_cons pe_int (pa_cons pe_int (pa_cons pe_int (pa_cons pe_int (pa_cons pe_int (pa_cons pe_int (pa_cons pe_int (pa_cons pe_int (pa_cons pe_int (pa_cons pe_int (pa_cons pe_int (pa_cons pe_int (pa_cons pe_int (pa_cons pe_int (pa_cons pe_int (pa_cons pe_int pa_nil))))))))))))))))))
 (pss_one (ps_ret (pe_op op_mod (pe_op op_mod (pe_op op_add (pe_op op_mul (pv 0) pe_int) (pe_op op_mul (pv 1) pe_int)) (pe_ix ix_tup (pv 3) (pe_op op_mod (pv 1) pe_int) (fun _ _ => rfl))) (pv 2))))), ?_⟩
    refine ⟨(by show 16 ≤ sizeLine; decide), fun t nt => ?_⟩
    have hk : 0 ≤ k % 16 ∧ k % 16 < 16 := by omega
    obtain ⟨z, hz, hz0⟩ := primes_pos (k % 16).toNat (by omega)
    have ha : atI (primesL.map V.int) (k % 16) = some (.int z) := by
      refine at_of (j := (k % 16).toNat) (by omega) ?_
      rw [List.getElem?_map, hz]
      rfl
    refine ⟨_, rfl, _, _, rfl, rfl, .inr (by decide), _, rfl, _, _, rfl, rfl, .inr (by decide), _, _, rfl, rfl, _, rfl, _, rfl, _, _, rfl, rfl, (show (0 : Int) < 16 by decide), t, primesL.map V.int, _, _, rfl, rfl, SqT.of upd_same, ha, _, _, rfl, rfl, hz0, _, rfl, _, _, rfl, rfl, hm, ?_⟩
    exact q _ _ (Int.emod_nonneg _ (by omega)) (Int.emod_lt_of_pos _ hm) (same_new nt)
end
end Wk
/-! the walk, part D2: the law's own heaps -/
namespace Wk
open PySem PySem.Spec PyProof.Rows L2 Spr
section
variable {P : Program} {w : World} {K : PySem.W.Frag} {mg : Str → Option Value} {base : Heap}
/-- heaps as the law makes them -/
structure HX (hs : List I2) : Prop where
  len : hs.length ≤ 63
  pos : ∀ h ∈ hs, 0 ≤ h.2
  w1 : ∀ h ∈ hs, h.1.natAbs < 10 ^ 40
  w2 : ∀ h ∈ hs, h.2 < 10 ^ 40
theorem HX.hb {hs : List I2} (h : HX hs) : HB hs := by
  have z : (10 : Nat) ^ 40 < 2 ^ 200 := by decide +kernel
  refine ⟨Nat.le_trans h.len (by decide), h.pos, fun x m => Nat.lt_trans (h.w1 x m) z, fun x m => ?_⟩
  have h1 := h.pos x m
  have h2 := h.w2 x m
  refine Nat.lt_trans ?_ z
  have e : ((10 : Int) ^ 40) = ((10 ^ 40 : Nat) : Int) := by decide +kernel
  rw [e] at h2
  generalize (10 : Nat) ^ 40 = N at *
  omega
theorem HX.snoc {hs : List I2} (h : HX hs) (l : hs.length ≤ 62) {x : I2} (h0 : 0 ≤ x.2) (h1 : x.1.natAbs < 10 ^ 40) (h2 : x.2 < 10 ^ 40) : HX (hs ++ [x]) := by
  refine ⟨by rw [List.length_append, List.length_singleton]; omega, fun y m => ?_, fun y m => ?_, fun y m => ?_⟩
  · rcases List.mem_append.mp m with m | m
    · exact h.pos y m
    · rw [List.mem_singleton.mp m]; exact h0
  · rcases List.mem_append.mp m with m | m
    · exact h.w1 y m
    · rw [List.mem_singleton.mp m]; exact h1
  · rcases List.mem_append.mp m with m | m
    · exact h.w2 y m
    · rw [List.mem_singleton.mp m]; exact h2
theorem HX.nil : HX [] := ⟨Nat.zero_le _, fun _ m => (nomatch m), fun _ m => (nomatch m), fun _ m => (nomatch m)⟩
theorem PL.same_len {H : Hp} {a : Addr} {hs : List I2} (p : PL H a hs) {xs : List V} (e : H a = some (.lst xs)) : xs.length = hs.length := by
  obtain ⟨ys, e2, q⟩ := p
  rw [e] at e2
  cases e2
  exact pr_len q
def spHeaps (K : PySem.W.Frag) : Sp := fun vs H Q _ => ∃ (a : Addr) (ns : List Int), vs = [.ref a] ∧ SqL K H a (ns.map V.int) ∧ ns.length ≤ 63 ∧ ∀ hs H' p, HX hs → Same H H' → H p = none → PL H' p hs → Q (.ref p) H'
theorem rgc2 (m : Nat) (h : m < 32) : RgC 0 ((2 * m : Nat) : Int) 2 m := by
  have h1 : ∀ m : Nat, m < 32 → (Builtin.Range.small 0 ((2 * m : Nat) : Int) 2 = true ∧ Builtin.Range.rangeSize 0 ((2 * m : Nat) : Int) 2 = m) := by decide +kernel
  exact ⟨by decide, by decide, h1 m h⟩
theorem cal_heaps (T : Top K mg) : C8.Cal P w K mg base 2 "_law_heaps" (spHeaps K) [] := by
  have c__law_cell_at : C8.Cal P w K mg base 1 "_law_cell_at" (spCell K) [] := cal_cell_at T
  have c__law_draw : C8.Cal P w K mg base 1 "_law_draw" spDraw [] := cal_draw T
  refine T.d__law_heaps.cal sc__law_heaps (fun vs H Q E h => ?_) (fun f cdv A outer s H vs Q E hr h => ?_)
  · obtain ⟨a, ns, rfl, _⟩ := h
    rfl
  · obtain ⟨a, ns, rfl, hS, hlen, q⟩ := h
    refine ⟨_, (pss_cons (ps_set (i := 1) sc__law_heaps.nd rfl (Or.inl rfl) (pe_lst pa_nil))
 (pss_cons (ps_if (pt_cmpR op_eq (pe_op op_mod (pe_callB call_len_seq (by rfl) T.m_len (by decide +kernel) (pa_cons (pv 0) pa_nil)) pe_int) pe_int (nomark _))
 (pss_cons (ps_for PassesOwn.never rfl (pi_range3 (by rfl) T.m_range (pa_cons pe_int (pa_cons (pe_callB call_len_seq (by rfl) T.m_len (by decide +kernel) (pa_cons (pv 0) pa_nil)) (pa_cons pe_int pa_nil)))) (pg_name (i := 2) sc__law_heaps.nd rfl (Or.inl rfl))
 (pss_one (ps_expr (pe_bm PySem.F.plainAttrs_list PySem.F.slot_list_append PySem.F.type_list_append mt_append (pv 1) (pa_cons (pe_tup (pa_cons (pe_op op_mul (pe_op op_mod (pe_op op_fdiv (pe_ix ix_list (pv 0) (pv 2) (fun _ _ => rfl)) pe_int) (pe_op op_pow pe_int pe_int)) (pe_op op_sub pe_int (pe_op op_mul (pe_op op_mod (pe_ix ix_list (pv 0) (pv 2) (fun _ _ => rfl)) pe_int) pe_int))) (pa_cons (pe_op op_mod (pe_ix ix_list (pv 0) (pe_op op_add (pv 2) pe_int) (fun _ _ => rfl)) (pe_op op_pow pe_int pe_int)) pa_nil))) pa_nil)))))
 (pss_one (ps_ret (pv 1))))
 pss_nil)
 (pss_cons (ps_set (i := 3) sc__law_heaps.nd rfl (Or.inl rfl) (pe_ix ix_tup (pe_tup (pa_cons pe_int (pa_cons pe_int (pa_cons pe_int (pa_cons pe_int pa_nil))))) (C8.pe_c c__law_draw hr (by decide) (by rfl) (pa_cons (C8.pe_c c__law_cell_at hr (by decide) (by rfl) (pa_cons (pv 0) (pa_cons pe_int pa_nil))) (pa_cons pe_int (pa_cons pe_int pa_nil)))) (fun _ _ => rfl)))
 (pss_cons (ps_set (i := 4) sc__law_heaps.nd rfl (Or.inl rfl) (pe_ix ix_tup (pe_tup (pa_cons pe_int (pa_cons pe_int (pa_cons pe_int (pa_cons pe_int pa_nil))))) (C8.pe_c c__law_draw hr (by decide) (by rfl) (pa_cons (C8.pe_c c__law_cell_at hr (by decide) (by rfl) (pa_cons (pv 0) (pa_cons pe_int pa_nil))) (pa_cons pe_int (pa_cons pe_int pa_nil)))) (fun _ _ => rfl)))
 (pss_cons (ps_for PassesOwn.never rfl (pi_range1 (by rfl) T.m_range (pa_cons (pe_callB call_len_seq (by rfl) T.m_len (by decide +kernel) (pa_cons (pv 0) pa_nil)) pa_nil)) (pg_name (i := 2) sc__law_heaps.nd rfl (Or.inl rfl))
 (pss_one (ps_expr (pe_bm PySem.F.plainAttrs_list PySem.F.slot_list_append PySem.F.type_list_append mt_append (pv 1) (pa_cons (pe_tup (pa_cons (pe_op op_sub (C8.pe_c c__law_draw hr (by decide) (by rfl) (pa_cons (pe_ix ix_list (pv 0) (pv 2) (fun _ _ => rfl)) (pa_cons (pe_op op_add (pe_op op_mod (pv 2) pe_int) pe_int) (pa_cons (pv 4) pa_nil)))) (pe_op op_fdiv (pv 4) pe_int)) (pa_cons (C8.pe_c c__law_draw hr (by decide) (by rfl) (pa_cons (pe_ix ix_list (pv 0) (pv 2) (fun _ _ => rfl)) (pa_cons (pe_op op_add (pe_op op_mod (pv 2) pe_int) pe_int) (pa_cons (pv 3) pa_nil)))) pa_nil))) pa_nil)))))
 (pss_one (ps_ret (pv 1)))))))), ?_⟩
    have z40 : (10 : Int) ^ (40 : Int).toNat = 10 ^ 40 := rfl
    have hp40 : (0 : Int) < 10 ^ 40 := by decide +kernel
    -- _law_found = []
    refine ⟨Nat.zero_le _, fun o no => ?_⟩
    have s1 : Same H (upd H o (.lst [])) := same_new no
    refine ⟨_, rfl, a, _, rfl, .inl (s1.seq hS), _, _, rfl, rfl, (by show (0 : Int) < 2; decide), rfl, _, rfl, ite2 (fun e => ?_) (fun e => ?_)⟩
    · have e0 : ((ns.map V.int).length : Int) % 2 = 0 := V.int.inj (of_decide_eq_true e)
      rw [List.length_map] at e0
      obtain ⟨m, hm⟩ : ∃ m, ns.length = 2 * m := ⟨ns.length / 2, by omega⟩
      -- for k in range(0, len(script), 2)
      refine ⟨_, rfl, a, _, rfl, .inl (s1.seq hS), 0, ((2 * m : Nat) : Int), 2, m, ?_, rgc2 m (by omega), for_rangeC (lo := 0) (c := 2) (n := m) (fun i σ H3 => ∃ y2 y3 y4 hs, σ = [some (.ref a), some (.ref o), y2, y3, y4] ∧ Same H H3 ∧ PL H3 o hs ∧ HX hs ∧ hs.length ≤ i) ⟨none, none, none, [], rfl, s1, ⟨[], upd_same, .nil⟩, .nil, Nat.le_refl _⟩ ?_ ?_⟩
      · rw [List.length_map, hm]
      · rintro i σ H3 hi ⟨y2, y3, y4, hs, rfl, s3, ⟨xs, eo, px⟩, hx, hl⟩
        have hS3 := s3.seq hS
        obtain ⟨z1, _, hz1⟩ := ints_at (ns := ns) (k := 0 + (i : Int) * 2) (by omega) (by omega)
        obtain ⟨z2, _, hz2⟩ := ints_at (ns := ns) (k := 0 + (i : Int) * 2 + 1) (by omega) (by omega)
        have b1 : 0 ≤ z1 / 2 % 10 ^ 40 ∧ z1 / 2 % 10 ^ 40 < 10 ^ 40 := ⟨Int.emod_nonneg _ (by omega), Int.emod_lt_of_pos _ hp40⟩
        have b2 : 0 ≤ z2 % 10 ^ 40 ∧ z2 % 10 ^ 40 < 10 ^ 40 := ⟨Int.emod_nonneg _ (by omega), Int.emod_lt_of_pos _ hp40⟩
        refine ⟨_, rfl, .inl ⟨rfl, _, SqL.of eo⟩, _, rfl, _, rfl, a, _, _, _, rfl, rfl, hS3, hz1, _, _, rfl, rfl, ⟨by decide, by decide⟩, _, _, rfl, rfl, ⟨by decide, by decide, by decide⟩, _, _, rfl, rfl, hp40, _, rfl, _, rfl, a, _, _, _, rfl, rfl, hS3, hz1, _, _, rfl, rfl, (show (0 : Int) < 2 by decide), _, _, rfl, rfl, .inr (by decide), _, _, rfl, rfl, _, _, rfl, rfl, .inr (by constructor <;> omega), _, rfl, _, rfl, _, _, rfl, rfl, a, _, _, _, rfl, rfl, hS3, hz2, _, _, rfl, rfl, ⟨by decide, by decide, by decide⟩, _, _, rfl, rfl, hp40, (by show 2 ≤ sizeLine; decide), fun t nt => ?_⟩
        refine ⟨o, xs, _, rfl, rfl, (same_new nt) _ _ eo, Evl.sz_lt ?_, ?_⟩
        · rw [pr_len px]
          have := hx.len
          omega
        have tp := tp_mut (o := .lst (xs ++ [V.ref t])) ((same_new (o := .tup [.int (z1 / 2 % 10 ^ 40 * (1 - z1 % 2 * 2)), .int (z2 % 10 ^ 40)]) nt) _ _ eo)
        refine ⟨_, _, _, hs ++ [(z1 / 2 % 10 ^ 40 * (1 - z1 % 2 * 2), z2 % 10 ^ 40)], rfl, same_mut (s3.trans (same_new nt)) no, ⟨_, upd_same, pr_snoc ((px.mono (tp_new nt)).mono tp) ⟨t, rfl, tp _ _ upd_same⟩⟩, hx.snoc (by omega) b2.1 ?_ b2.2, ?_⟩
        · have hz : 1 - z1 % 2 * 2 = 1 ∨ 1 - z1 % 2 * 2 = -1 := by omega
          have e : ((10 : Int) ^ 40) = ((10 ^ 40 : Nat) : Int) := by decide +kernel
          rw [e] at b1
          show (z1 / 2 % 10 ^ 40 * (1 - z1 % 2 * 2)).natAbs < 10 ^ 40
          rw [e]
          rcases hz with hz | hz
          · rw [hz, Int.mul_one]
            generalize z1 / 2 % ((10 ^ 40 : Nat) : Int) = y at *
            generalize (10 : Nat) ^ 40 = N at *
            omega
          · rw [hz]
            generalize z1 / 2 % ((10 ^ 40 : Nat) : Int) = y at *
            generalize (10 : Nat) ^ 40 = N at *
            omega
        · rw [List.length_append, List.length_singleton]
          omega
      · rintro σ H3 ⟨y2, y3, y4, hs, rfl, s3, hP, hx, hl⟩
        exact ⟨_, rfl, q hs H3 o hx s3 no hP⟩
    · have menu : ∀ (ms : List Int) (r : Int), ms.length = 4 → (∀ x ∈ ms, 0 < x ∧ x ≤ 1000000) → 0 ≤ r → r < 4 → ∃ z, atI (ms.map V.int) r = some (.int z) ∧ 0 < z ∧ z ≤ 1000000 := fun ms r h4 hp h0 h1 => by
        obtain ⟨z, hz, ha⟩ := ints_at (ns := ms) h0 (by omega)
        exact ⟨z, ha, hp z (List.mem_of_getElem? hz)⟩
      have menu1 := menu [3, 20, 1000000, 5] 
      have menu2 := menu [5, 60, 1000000, 9] 
      -- _law_most
      refine ⟨(by show 4 ≤ sizeLine; decide), fun t1 nt1 => ?_⟩
      have s2 := s1.trans (same_new (o := .tup ([3, 20, 1000000, 5].map V.int)) nt1)
      refine ⟨_, rfl, a, ns, 0, rfl, s2.seq hS, by decide, fun i1 => ⟨i1, 6, 4, rfl, by decide, by decide, fun r1 H2 h0 h1 s3 => ?_⟩⟩
      obtain ⟨most, hm, m0, m1⟩ := menu1 r1 rfl (by decide) h0 h1
      refine ⟨t1, _, r1, _, rfl, rfl, SqT.of (s3 _ _ upd_same), hm, ?_⟩
      have eo2 := s3 _ _ ((same_new nt1) _ _ upd_same)
      have s23 := s2.trans s3
      -- _law_wide
      refine ⟨(by show 4 ≤ sizeLine; decide), fun t2 nt2 => ?_⟩
      have s4 := s23.trans (same_new (o := .tup ([5, 60, 1000000, 9].map V.int)) nt2)
      refine ⟨_, rfl, a, ns, 0 + 1, rfl, s4.seq hS, by decide, fun i2 => ⟨i2, 7, 4, rfl, by decide, by decide, fun r2 H3 h2 h3 s5 => ?_⟩⟩
      obtain ⟨wide, hw, w0, w1⟩ := menu2 r2 rfl (by decide) h2 h3
      refine ⟨t2, _, r2, _, rfl, rfl, SqT.of (s5 _ _ upd_same), hw, ?_⟩
      have eo3 := s5 _ _ ((same_new nt2) _ _ eo2)
      have s45 := s4.trans s5
      -- for k in range(len(script))
      refine ⟨_, rfl, a, _, rfl, .inl (s45.seq hS), (ns.length : Int), ?_, by omega, by omega, ?_⟩
      · rw [List.length_map]
      have en : (ns.length : Int).toNat = ns.length := by omega
      refine for_range (lo := 0) (n := (ns.length : Int).toNat) (fun i σ H3 => ∃ y2 hs, σ = [some (.ref a), some (.ref o), y2, some (.int most), some (.int wide)] ∧ Same H H3 ∧ PL H3 o hs ∧ HX hs ∧ hs.length ≤ i) ⟨none, [], rfl, s45, ⟨[], eo3, .nil⟩, .nil, Nat.le_refl _⟩ ?_ ?_
      · rintro i σ H4 hi ⟨y2, hs, rfl, s6, ⟨xs, eo4, px⟩, hx, hl⟩
        rw [en] at hi
        obtain ⟨z1, _, hz1⟩ := ints_at (ns := ns) (k := 0 + (i : Int)) (by omega) (by omega)
        have hS6 := s6.seq hS
        refine ⟨_, rfl, .inl ⟨rfl, _, SqL.of eo4⟩, _, rfl, _, rfl, a, _, _, _, rfl, rfl, hS6, hz1, _, rfl, _, _, rfl, rfl, (show (0 : Int) < 5 by decide), _, _, rfl, rfl, _, rfl, _, _, _, rfl, by omega, w0, fun d1 H5 p0 p1 s7 => ?_⟩
        refine ⟨_, rfl, _, _, rfl, rfl, ⟨by decide, by decide⟩, _, _, rfl, rfl, ?_⟩
        refine ⟨_, rfl, _, rfl, a, _, _, _, rfl, rfl, s7.seq hS6, hz1, _, rfl, _, _, rfl, rfl, (show (0 : Int) < 7 by decide), _, _, rfl, rfl, _, rfl, _, _, _, rfl, by omega, m0, fun d2 H6 p2 p3 s8 => ?_⟩
        refine ⟨(by show 2 ≤ sizeLine; decide), fun t nt => ?_⟩
        have eo6 := s8 _ _ (s7 _ _ eo4)
        have s9 := same_new (o := .tup [.int (d1 - wide / 2), .int d2]) nt
        refine ⟨o, xs, _, rfl, rfl, s9 _ _ eo6, Evl.sz_lt ?_, ?_⟩
        · rw [pr_len px]
          have := hx.len
          omega
        have tp := tp_mut (o := .lst (xs ++ [V.ref t])) (s9 _ _ eo6)
        refine ⟨_, hs ++ [(d1 - wide / 2, d2)], rfl, same_mut (((s6.trans s7).trans s8).trans s9) no, ⟨_, upd_same, pr_snoc ((((px.mono (same_tp s7)).mono (same_tp s8)).mono (same_tp s9)).mono tp) ⟨t, rfl, tp _ _ upd_same⟩⟩, hx.snoc (by omega) p2 ?_ ?_, ?_⟩
        · have e : (10 : Nat) ^ 40 = 10000000000000000000000000000000000000000 := by decide +kernel
          show (d1 - wide / 2).natAbs < 10 ^ 40
          rw [e]
          omega
        · have e : (10 : Int) ^ 40 = 10000000000000000000000000000000000000000 := by decide +kernel
          show d2 < 10 ^ 40
          rw [e]
          omega
        · rw [List.length_append, List.length_singleton]
          omega
      · rintro σ H4 ⟨y2, hs, rfl, s6, hP, hx, hl⟩
        exact ⟨_, rfl, q hs H4 o hx s6 no hP⟩
end
end Wk
/-! the walk, part P: readings that evaluate to pairs, to lists of pairs -/
namespace Wk
open PySem PySem.Spec PyProof.Rows L2 Spr
theorem eqv_pairs : ∀ l m : List I2, PyData.eqv (.list (l.map pairD)) (.list (m.map pairD)) = decide (l = m)
  | [], [] => by
    show PyData.eqvAll [] [] = _
    rw [PyData.eqvAll]; rfl
  | [], b :: m => by
    show PyData.eqvAll [] (pairD b :: m.map pairD) = _
    rw [PyData.eqvAll]; rfl
  | a :: l, [] => by
    show PyData.eqvAll (pairD a :: l.map pairD) [] = _
    rw [PyData.eqvAll]; rfl
  | a :: l, b :: m => by
    have ih := eqv_pairs l m
    have ih2 : PyData.eqvAll (l.map pairD) (m.map pairD) = decide (l = m) := ih
    have e1 : PyData.eqv (pairD a) (pairD b) = decide (a = b) := by
      show PyData.eqvAll [.int a.1, .int a.2] [.int b.1, .int b.2] = _
      rw [PyData.eqvAll, PyData.eqvAll, PyData.eqvAll]
      show ((a.1 == b.1) && ((a.2 == b.2) && true)) = _
      obtain ⟨a1, a2⟩ := a
      obtain ⟨b1, b2⟩ := b
      by_cases h1 : a1 = b1 <;> by_cases h2 : a2 = b2 <;> simp [h1, h2]
    show PyData.eqvAll (pairD a :: l.map pairD) (pairD b :: m.map pairD) = _
    rw [PyData.eqvAll, e1, ih2]
    by_cases h1 : a = b <;> by_cases h2 : l = m <;> simp [h1, h2]
theorem HB.all {hs : List I2} (h : HB hs) : (hs.map pairD).all isHeapD = true := by
  rw [List.all_map, List.all_eq_true]
  intro x m
  exact decide_eq_true (h.pos x m)
section
variable {K : PySem.W.Frag} {σ : L2.St} {H : Hp} {te ta tb : TE} {ti : TE} {tr : TA}
/-- a pair of ints -/
def EvP (te : TE) (σ : L2.St) (H : Hp) (x : I2) : Prop := ∀ H1, Same H H1 → ∀ Q : VK, (∀ v H2, Same H1 H2 → PT H2 v x → Q v H2) → te σ H1 Q
/-- pairs of ints, one by one -/
def EvPs (tr : TA) (σ : L2.St) (H : Hp) (m : List I2) : Prop := ∀ H1, Same H H1 → ∀ Q : List V → Hp → Prop, (∀ vs H2, Same H1 H2 → PTs H2 vs m → Q vs H2) → tr σ H1 Q
/-- a list of pairs; a new one -/
def EvQ (te : TE) (σ : L2.St) (H : Hp) (m : List I2) : Prop := ∀ H1, Same H H1 → ∀ Q : VK, (∀ p H2, Same H1 H2 → PL H2 p m → Q (.ref p) H2) → te σ H1 Q
def EvN (te : TE) (σ : L2.St) (H : Hp) (m : List I2) : Prop := ∀ H1, Same H H1 → ∀ Q : VK, (∀ p H2, H1 p = none → Same H1 H2 → PL H2 p m → Q (.ref p) H2) → te σ H1 Q
theorem EvN.q {m : List I2} (h : EvN te σ H m) : EvQ te σ H m := fun H1 s Q k => h H1 s Q fun p H2 _ s2 hp => k p H2 s2 hp
theorem evp_var {i : Nat} {v : V} {x : I2} (h : σ[i]? = some (some v)) (p : PT H v x) : EvP (tVar i) σ H x := fun H1 s Q k => ⟨v, h, k v H1 (Same.refl H1) (p.mono (same_tp s))⟩
theorem evp_tup {a b : Int} (h1 : Evl.Ev ta σ H (.int a)) (h2 : Evl.Ev tb σ H (.int b)) : EvP (tTup (tCons ta (tCons tb tNil))) σ H (a, b) := fun H1 s Q k =>
  h1 H1 s _ fun H2 s2 => h2 H2 (Same.trans s s2) _ fun H3 s3 => ⟨(by show 2 ≤ sizeLine; decide), fun t nt => k _ _ (Same.trans (Same.trans s2 s3) (same_new nt)) ⟨t, rfl, upd_same⟩⟩
theorem evps_nil : EvPs tNil σ H [] := fun H1 s Q k => k [] H1 (Same.refl H1) .nil
theorem evps_cons {x : I2} {m : List I2} (h1 : EvP te σ H x) (h2 : EvPs tr σ H m) : EvPs (tCons te tr) σ H (x :: m) := fun H1 s Q k =>
  h1 H1 s _ fun v H2 s2 p => h2 H2 (Same.trans s s2) _ fun vs H3 s3 ps => k _ H3 (Same.trans s2 s3) (.cons (p.mono (same_tp s3)) ps)
theorem evn_disp {m : List I2} (h : EvPs tr σ H m) (hl : m.length ≤ 1000) : EvN (tLst tr) σ H m := fun H1 s Q k =>
  h H1 s _ fun vs H2 s2 ps => ⟨by rw [pr_len ps]; exact Evl.sz_of (by omega), fun p np => k p _ (Same.free s2 np) (Same.trans s2 (same_new np)) ⟨vs, upd_same, ps.mono (tp_new np)⟩⟩
theorem evq_var {i : Nat} {a : Addr} {m : List I2} (h : σ[i]? = some (some (.ref a))) (p : PL H a m) : EvQ (tVar i) σ H m := fun H1 s Q k => ⟨.ref a, h, k a H1 (Same.refl H1) (p.mono s)⟩
def cutI (m : List I2) (lo hi : Option Int) : List I2 := (m.drop (HT.sIx m.length 0 lo)).take (HT.sIx m.length m.length hi - HT.sIx m.length 0 lo)
theorem PTs.cut {xs : List V} {m : List I2} (p : PTs H xs m) (lo hi : Option Int) : PTs H (cutV xs lo hi) (cutI m lo hi) := by
  unfold cutV cutI
  rw [pr_len p]
  exact pr_take _ (pr_drop _ p)
theorem cutI_len (m : List I2) (lo hi : Option Int) : (cutI m lo hi).length ≤ m.length := by
  unfold cutI
  rw [List.length_take, List.length_drop]
  omega
theorem cutI_mem {m : List I2} {lo hi : Option Int} {x : I2} (h : x ∈ cutI m lo hi) : x ∈ m := List.mem_of_mem_drop (List.mem_of_mem_take h)
theorem evn_sl {tl th : TO} {m : List I2} {lo hi : Option Int} (h : EvQ te σ H m) (h1 : Evl.EvO tl σ H lo) (h2 : Evl.EvO th σ H hi) : EvN (tSl (rSlL K) te tl th) σ H (cutI m lo hi) := fun H1 s Q k =>
  h H1 s _ fun a H2 s2 hp => h1 H2 (Same.trans s s2) _ fun H3 s3 => h2 H3 (Same.trans (Same.trans s s2) s3) _ fun H4 s4 => by
    obtain ⟨xs, e, ps⟩ := hp.mono (Same.trans s3 s4)
    have s14 : Same H1 H4 := Same.trans (Same.trans s2 s3) s4
    exact ⟨a, xs, rfl, SqL.of e, fun p np => k p _ (Same.free s14 np) (Same.trans s14 (same_new np)) ⟨_, upd_same, (ps.cut lo hi).mono (tp_new np)⟩⟩
theorem evn_cat {a b : List I2} (h1 : EvQ ta σ H a) (h2 : EvQ tb σ H b) (hl : a.length + b.length ≤ 100000) : EvN (tOp rCat ta tb) σ H (a ++ b) := fun H1 s Q k =>
  h1 H1 s _ fun p1 H2 s2 hp1 => h2 H2 (Same.trans s s2) _ fun p2 H3 s3 hp2 => by
    obtain ⟨xs, e1, ps⟩ := hp1.mono s3
    obtain ⟨ys, e2, qs⟩ := hp2
    have s13 : Same H1 H3 := Same.trans s2 s3
    exact ⟨p1, p2, xs, ys, rfl, rfl, e1, e2, Evl.sz_of (by rw [pr_len ps, pr_len qs]; exact hl), fun p np => k p _ (Same.free s13 np) (Same.trans s13 (same_new np)) ⟨_, upd_same, PTs.mono (tp_new np) (pr_app ps qs)⟩⟩
theorem evn_rev {m : List I2} (h : EvQ te σ H m) : EvN (tRevL K te) σ H m.reverse := fun H1 s Q k =>
  h H1 s _ fun a H2 s2 hp => by
    obtain ⟨xs, e, ps⟩ := hp
    exact ⟨a, xs, rfl, SqL.of e, fun p np => k p _ (Same.free s2 np) (Same.trans s2 (same_new np)) ⟨_, upd_same, PTs.mono (tp_new np) (pr_rev ps)⟩⟩
theorem evn_list {m : List I2} (h : EvQ te σ H m) : EvN (tCB (fun xs H Q => ∃ p ys, xs = [.ref p] ∧ (SqL K H p ys ∨ SqT K H p ys) ∧ ∀ l, H l = none → Q (.ref l) (upd H l (.lst ys))) (tCons te tNil)) σ H m := fun H1 s Q k =>
  h H1 s _ fun a H2 s2 hp => by
    obtain ⟨xs, e, ps⟩ := hp
    exact ⟨a, xs, rfl, .inl (SqL.of e), fun p np => k p _ (Same.free s2 np) (Same.trans s2 (same_new np)) ⟨_, upd_same, ps.mono (tp_new np)⟩⟩
theorem ev_lenQ {m : List I2} (h : EvQ te σ H m) : Evl.Ev (tCB (fun xs H Q => ∃ p ys, xs = [.ref p] ∧ (SqL K H p ys ∨ SqT K H p ys) ∧ Q (.int ys.length) H) (tCons te tNil)) σ H (.int (m.length : Int)) := fun H1 s Q k =>
  h H1 s _ fun a H2 s2 hp => by
    obtain ⟨xs, e, ps⟩ := hp
    refine ⟨a, xs, rfl, .inl (SqL.of e), ?_⟩
    rw [pr_len ps]
    exact k H2 s2
theorem ev_eqQ {a b : List I2} (h1 : EvQ ta σ H a) (h2 : EvQ tb σ H b) : Evl.Ev (tOp (rEqD K) ta tb) σ H (.bl (decide (a = b))) := fun H1 s Q k =>
  h1 H1 s _ fun p1 H2 s2 hp1 => h2 H2 (Same.trans s s2) _ fun p2 H3 s3 hp2 =>
    ⟨_, _, PL.dp (hp1.mono s3), PL.dp hp2, shaped_map pairD_lay _, shaped_map pairD_lay _, by rw [eqv_pairs]; exact k H3 (Same.trans s2 s3)⟩
theorem ev_neQ {a b : List I2} (h1 : EvQ ta σ H a) (h2 : EvQ tb σ H b) : Evl.Ev (tOp (rNeD K) ta tb) σ H (.bl (!decide (a = b))) := fun H1 s Q k =>
  h1 H1 s _ fun p1 H2 s2 hp1 => h2 H2 (Same.trans s s2) _ fun p2 H3 s3 hp2 =>
    ⟨_, _, PL.dp (hp1.mono s3), PL.dp hp2, shaped_map pairD_lay _, shaped_map pairD_lay _, by rw [eqv_pairs]; exact k H3 (Same.trans s2 s3)⟩
theorem evp_ix {m : List I2} {i : Int} {x : I2} (h1 : EvQ ta σ H m) (h2 : Evl.Ev tb σ H (.int i)) (hx : atI m i = some x) : EvP (tOp (rIxL K) ta tb) σ H x := fun H1 s Q k =>
  h1 H1 s _ fun p1 H2 s2 hp1 => h2 H2 (Same.trans s s2) _ fun H3 s3 => by
    obtain ⟨xs, e, ps⟩ := hp1.mono s3
    obtain ⟨j, h3, h4, _⟩ := atI_get hx
    obtain ⟨v, hv, pv⟩ := pr_get2 ps h4
    refine ⟨p1, xs, i, v, rfl, rfl, SqL.of e, ?_, k v H3 (Same.trans s2 s3) pv⟩
    unfold atI at hx ⊢
    rw [pr_len ps]
    cases e2 : ixN m.length i with
    | none => rw [e2] at hx; cases hx
    | some j2 =>
      rw [e2] at hx
      have h5 : m[j2]? = some x := hx
      obtain ⟨v2, hv2, _⟩ := pr_get2 ps h5
      have : j2 = j := by
        have := (ixN_seq e2).1
        rw [h3] at this
        exact (Option.some.inj this).symm
      subst this
      exact hv
theorem ev_fst {x : I2} (h : EvP te σ H x) : Evl.Ev (tOp (rIxT K) te (tC (.int 0))) σ H (.int x.1) := fun H1 s Q k =>
  h H1 s _ fun v H2 s2 pv => by
    obtain ⟨t, rfl, e⟩ := pv
    exact ⟨t, _, 0, _, rfl, rfl, SqT.of e, atI_nat (j := 0) rfl, k H2 s2⟩
theorem ev_snd {x : I2} (h : EvP te σ H x) : Evl.Ev (tOp (rIxT K) te (tC (.int 1))) σ H (.int x.2) := fun H1 s Q k =>
  h H1 s _ fun v H2 s2 pv => by
    obtain ⟨t, rfl, e⟩ := pv
    exact ⟨t, _, 1, _, rfl, rfl, SqT.of e, atI_nat (j := 1) rfl, k H2 s2⟩
theorem EvP.mono {H' : Hp} {x : I2} (s : Same H H') (h : EvP te σ H x) : EvP te σ H' x := fun H1 s1 => h H1 (Same.trans s s1)
theorem EvQ.mono {H' : Hp} {m : List I2} (s : Same H H') (h : EvQ te σ H m) : EvQ te σ H' m := fun H1 s1 => h H1 (Same.trans s s1)
theorem EvN.mono {H' : Hp} {m : List I2} (s : Same H H') (h : EvN te σ H m) : EvN te σ H' m := fun H1 s1 => h H1 (Same.trans s s1)
/-- a, b = a pair -/
theorem asg_pair {D : Ends} {i j : Nat} {x : I2} (h : EvP te σ H x) (k : ∀ H1, Same H H1 → D.nx ((σ.set i (some (.int x.1))).set j (some (.int x.2))) H1) : tAsg te (gTup K 2 (gCons (gName i) (gCons (gName j) gNil))) D σ H :=
  h H (Same.refl H) _ fun v H1 s1 pv => by
    obtain ⟨t, rfl, e⟩ := pv
    exact ⟨t, _, rfl, SqT.of e, rfl, _, _, rfl, _, _, rfl, rfl, k H1 s1⟩
theorem asg_q {D : Ends} {i : Nat} {m : List I2} (h : EvQ te σ H m) (k : ∀ p H1, Same H H1 → PL H1 p m → D.nx (σ.set i (some (.ref p))) H1) : tAsg te (gName i) D σ H :=
  h H (Same.refl H) _ fun p H1 s1 hp => k p H1 s1 hp
theorem asg_n {D : Ends} {i : Nat} {m : List I2} (h : EvN te σ H m) (k : ∀ p H1, H p = none → Same H H1 → PL H1 p m → D.nx (σ.set i (some (.ref p))) H1) : tAsg te (gName i) D σ H :=
  h H (Same.refl H) _ fun p H1 np s1 hp => k p H1 np s1 hp
theorem asg_p {D : Ends} {i : Nat} {x : I2} (h : EvP te σ H x) (k : ∀ v H1, Same H H1 → PT H1 v x → D.nx (σ.set i (some v)) H1) : tAsg te (gName i) D σ H :=
  h H (Same.refl H) _ fun p H1 s1 hp => k p H1 s1 hp
theorem asg_i {D : Ends} {i : Nat} {v : V} (h : Evl.Ev te σ H v) (k : ∀ H1, Same H H1 → D.nx (σ.set i (some v)) H1) : tAsg te (gName i) D σ H :=
  h H (Same.refl H) _ fun H1 s1 => k H1 s1
theorem ret_n {D : Ends} {m : List I2} (h : EvN te σ H m) (k : ∀ p H1, H p = none → Same H H1 → PL H1 p m → D.rt (.ref p) H1) : tRet te D σ H :=
  h H (Same.refl H) _ fun p H1 np s1 hp => k p H1 np s1 hp
theorem ret_v {D : Ends} {v : V} (h : Evl.Ev te σ H v) (k : ∀ H1, Same H H1 → D.rt v H1) : tRet te D σ H :=
  h H (Same.refl H) _ fun H1 s1 => k H1 s1
/-- a test that is known by cases -/
theorem if_t {D : Ends} {t : TT} {tu tw : TS} {c : Prop} [Decidable c] (h : Evl.EvT t σ H (decide c)) (h1 : c → ∀ H1, Same H H1 → tu D σ H1) (h2 : ¬ c → ∀ H1, Same H H1 → tw D σ H1) : tIfS t tu tw D σ H :=
  h H (Same.refl H) _ fun H1 s1 => by
    by_cases e : c
    · rw [decide_eq_true e]
      exact iteT (h1 e H1 s1)
    · rw [decide_eq_false e]
      exact iteF (h2 e H1 s1)
theorem if_b {D : Ends} {t : TT} {tu tw : TS} {b : Bool} (h : Evl.EvT t σ H b) (h1 : b = true → ∀ H1, Same H H1 → tu D σ H1) (h2 : b = false → ∀ H1, Same H H1 → tw D σ H1) : tIfS t tu tw D σ H :=
  h H (Same.refl H) _ fun H1 s1 => by
    cases b with
    | true => exact iteT (h1 rfl H1 s1)
    | false => exact iteF (h2 rfl H1 s1)
/-! the same, something behind -/
variable {tz : TS}
theorem nx_mk {f : L2.St → Hp → Prop} {r : VK} {b c : L2.St → Hp → Prop} (h : f σ H) : (Ends.mk f r b c).nx σ H := h
theorem q_pair {D : Ends} {i j : Nat} {x : I2} (h : EvP te σ H x) (k : ∀ H1, Same H H1 → tz D ((σ.set i (some (.int x.1))).set j (some (.int x.2))) H1) : tSeq (tAsg te (gTup K 2 (gCons (gName i) (gCons (gName j) gNil)))) tz D σ H := asg_pair (D := { D with nx := tz D }) h k
theorem q_q {D : Ends} {i : Nat} {m : List I2} (h : EvQ te σ H m) (k : ∀ p H1, Same H H1 → PL H1 p m → tz D (σ.set i (some (.ref p))) H1) : tSeq (tAsg te (gName i)) tz D σ H := asg_q (D := { D with nx := tz D }) h k
theorem q_n {D : Ends} {i : Nat} {m : List I2} (h : EvN te σ H m) (k : ∀ p H1, H p = none → Same H H1 → PL H1 p m → tz D (σ.set i (some (.ref p))) H1) : tSeq (tAsg te (gName i)) tz D σ H := asg_n (D := { D with nx := tz D }) h k
theorem q_p {D : Ends} {i : Nat} {x : I2} (h : EvP te σ H x) (k : ∀ v H1, Same H H1 → PT H1 v x → tz D (σ.set i (some v)) H1) : tSeq (tAsg te (gName i)) tz D σ H := asg_p (D := { D with nx := tz D }) h k
theorem q_i {D : Ends} {i : Nat} {v : V} (h : Evl.Ev te σ H v) (k : ∀ H1, Same H H1 → tz D (σ.set i (some v)) H1) : tSeq (tAsg te (gName i)) tz D σ H := asg_i (D := { D with nx := tz D }) h k
theorem q_if {D : Ends} {t : TT} {tu tw : TS} {c : Prop} [Decidable c] (h : Evl.EvT t σ H (decide c)) (h1 : c → ∀ H1, Same H H1 → tu { D with nx := tz D } σ H1) (h2 : ¬ c → ∀ H1, Same H H1 → tw { D with nx := tz D } σ H1) : tSeq (tIfS t tu tw) tz D σ H := if_t (D := { D with nx := tz D }) h h1 h2
theorem q_ifb {D : Ends} {t : TT} {tu tw : TS} {b : Bool} (h : Evl.EvT t σ H b) (h1 : b = true → ∀ H1, Same H H1 → tu { D with nx := tz D } σ H1) (h2 : b = false → ∀ H1, Same H H1 → tw { D with nx := tz D } σ H1) : tSeq (tIfS t tu tw) tz D σ H := if_b (D := { D with nx := tz D }) h h1 h2
/-- an if without else -/
theorem q_when {D : Ends} {t : TT} {tu : TS} {c : Prop} [Decidable c] (h : Evl.EvT t σ H (decide c)) (h1 : c → ∀ H1, Same H H1 → tu { D with nx := tz D } σ H1) (h2 : ¬ c → ∀ H1, Same H H1 → tz D σ H1) : tSeq (tIfS t tu tNext) tz D σ H := if_t (D := { D with nx := tz D }) h h1 h2
theorem q_whenb {D : Ends} {t : TT} {tu : TS} {b : Bool} (h : Evl.EvT t σ H b) (h1 : b = true → ∀ H1, Same H H1 → tu { D with nx := tz D } σ H1) (h2 : b = false → ∀ H1, Same H H1 → tz D σ H1) : tSeq (tIfS t tu tNext) tz D σ H := if_b (D := { D with nx := tz D }) h h1 h2
end
theorem rv_eqI {H : Hp} {i j : Int} : Evl.RV rEq (.int i) (.int j) H (.bl (decide (i = j))) := fun H1 _ _ q => ⟨rfl, by
  have e : decide (V.int i = V.int j) = decide (i = j) := by
    by_cases h : i = j
    · rw [decide_eq_true h, decide_eq_true (congrArg V.int h)]
    · rw [decide_eq_false h, decide_eq_false fun z => h (V.int.inj z)]
  rw [e]
  exact q H1 (Evl.Ex.refl H1)⟩
theorem rv_neI {H : Hp} {i j : Int} : Evl.RV rNe (.int i) (.int j) H (.bl (!decide (i = j))) := fun H1 _ _ q => ⟨rfl, by
  have e : decide (V.int i = V.int j) = decide (i = j) := by
    by_cases h : i = j
    · rw [decide_eq_true h, decide_eq_true (congrArg V.int h)]
    · rw [decide_eq_false h, decide_eq_false fun z => h (V.int.inj z)]
  rw [e]
  exact q H1 (Evl.Ex.refl H1)⟩
theorem rv_isB {H : Hp} {a b : Bool} : Evl.RV rIsB (.bl a) (.bl b) H (.bl (decide (a = b))) := fun H1 _ _ q => ⟨a, b, rfl, rfl, q H1 (Evl.Ex.refl H1)⟩
theorem rv_notB {H : Hp} {a b : Bool} : Evl.RV rNotB (.bl a) (.bl b) H (.bl (!decide (a = b))) := fun H1 _ _ q => ⟨a, b, rfl, rfl, q H1 (Evl.Ex.refl H1)⟩
theorem rv_neB {H : Hp} {a b : Bool} : Evl.RV rNe (.bl a) (.bl b) H (.bl (!decide (a = b))) := fun H1 _ _ q => ⟨rfl, by
  have e : decide (V.bl a = V.bl b) = decide (a = b) := by cases a <;> cases b <;> decide
  rw [e]
  exact q H1 (Evl.Ex.refl H1)⟩
theorem stretches_one (x : I2) : stretches [x] = (((clusS [x]).reverse.flatMap parts).foldl joinp []).reverse := by
  have e : srt [x] = [x] := (srt_of (List.Perm.refl _) (List.pairwise_singleton _ _)).symm
  unfold stretches clus
  rw [e]
theorem stretches_nil : stretches [] = [] := by
  have e : srt [] = [] := (srt_of (List.Perm.refl _) .nil).symm
  unfold stretches clus
  rw [e]
  rfl
theorem HB.small {hs : List I2} (h : (decide (hs.length ≤ 1000) && hs.all fun h => decide (0 ≤ h.2) && decide (h.1.natAbs < 1000000) && decide (h.2.natAbs < 1000000)) = true) : HB hs := by
  rw [Bool.and_eq_true, decide_eq_true_iff, List.all_eq_true] at h
  obtain ⟨h1, h2⟩ := h
  have z : 1000000 < (2 : Nat) ^ 200 := by decide +kernel
  refine ⟨h1, fun x m => ?_, fun x m => ?_, fun x m => ?_⟩ <;>
  · have q := h2 x m
    rw [Bool.and_eq_true, Bool.and_eq_true, decide_eq_true_iff, decide_eq_true_iff, decide_eq_true_iff] at q
    first
      | exact q.1.1
      | exact Nat.lt_trans q.1.2 z
      | exact Nat.lt_trans q.2 z
end Wk
/-! the walk, part Q: comprehensions over lists of pairs, sorted, sum, any, all -/
namespace Wk
open PySem PySem.Spec PyProof.Rows L2 Spr
section
variable {K : PySem.W.Frag} {σ : L2.St} {H : Hp} {te ta tb tl : TE} {t : TT}
/-- the slots of a turn of a comprehension whose target is a pair -/
abbrev s2 (σ : L2.St) (vs : List Nat) (i j : Nat) (x : I2) : L2.St := ((wipe σ vs).set i (some (.int x.1))).set j (some (.int x.2))
/-- [e for a, b in pairs if t] -/
theorem el_lcP {m : List I2} {i j : Nat} {vs : List Nat} (f : I2 → Bool) (v : I2 → V) (h : EvQ tl σ H m) (hm : m.length ≤ 40000) (hw : ∀ a b, wipe (((wipe σ vs).set i a).set j b) vs = wipe σ vs)
    (ht : ∀ x ∈ m, Evl.EvT t (s2 σ vs i j x) H (f x)) (he : ∀ x ∈ m, f x = true → Evl.Ev te (s2 σ vs i j x) H (v x)) :
    Evl.EvL (tLc (iList K tl) (gTup K 2 (gCons (gName i) (gCons (gName j) gNil))) t te vs) σ H ((m.filter f).map v) := fun H0 s0 Q q =>
  h H0 s0 _ fun a H1 s1 ha => by
    obtain ⟨xs, ea, px⟩ := ha
    refine ⟨a, rfl, ⟨xs, SqL.of ea⟩, fun D nD => ?_⟩
    refine lc_list (K := K) (a := a) (xs := xs) (fun k H' => Same H1 H' ∧ H' D = some (.lst (((m.take k).filter f).map v))) ⟨same_new nD, upd_same⟩ (fun k H' _ p => SqL.of (p.1 _ _ ea)) ?_ ?_
    · rintro k x H' hk ⟨s2', e2⟩
      obtain ⟨y, hy, tt, rfl, et⟩ := pr_get px hk
      have my : y ∈ m := List.mem_of_getElem? hy
      have hkl : k < m.length := (List.getElem?_eq_some_iff.mp hy).1
      refine ⟨tt, _, rfl, SqT.of (s2' _ _ et), rfl, _, _, rfl, _, _, rfl, rfl, hw _ _, ?_⟩
      refine ht y my H' (Same.trans (Same.trans s0 s1) s2') _ fun H3 s3 => ?_
      rw [take_snoc hy, List.filter_append, List.map_append]
      cases hf : f y with
      | false =>
        refine iteF ⟨Same.trans s2' s3, ?_⟩
        rw [List.filter_cons_of_neg (by rw [hf]; decide), List.filter_nil, List.map_nil, List.append_nil]
        exact s3 _ _ e2
      | true =>
        refine iteT ?_
        refine he y my hf H3 (Same.trans (Same.trans (Same.trans s0 s1) s2') s3) _ fun H4 s4 => ?_
        refine ⟨_, s4 _ _ (s3 _ _ e2), ?_, same_mut (Same.trans s2' (Same.trans s3 s4)) nD, ?_⟩
        · rw [List.length_map]
          have := List.length_filter_le f (m.take k)
          rw [List.length_take] at this
          exact Evl.sz_lt (by omega)
        · rw [upd_same, List.filter_cons_of_pos hf, List.filter_nil]
          rfl
    · rintro H' ⟨s2', e2⟩
      rw [pr_len px, List.take_length] at e2
      exact q D H' (Same.free s1 nD) (Same.trans s1 s2') e2
/-- the same, the items pairs -/
theorem evn_lcP {m : List I2} {i j : Nat} {vs : List Nat} (f : I2 → Bool) (v : I2 → I2) (h : EvQ tl σ H m) (hm : m.length ≤ 40000) (hw : ∀ a b, wipe (((wipe σ vs).set i a).set j b) vs = wipe σ vs)
    (ht : ∀ x ∈ m, Evl.EvT t (s2 σ vs i j x) H (f x)) (he : ∀ x ∈ m, f x = true → EvP te (s2 σ vs i j x) H (v x)) :
    EvN (tLc (iList K tl) (gTup K 2 (gCons (gName i) (gCons (gName j) gNil))) t te vs) σ H ((m.filter f).map v) := fun H0 s0 Q q =>
  h H0 s0 _ fun a H1 s1 ha => by
    obtain ⟨xs, ea, px⟩ := ha
    refine ⟨a, rfl, ⟨xs, SqL.of ea⟩, fun D nD => ?_⟩
    refine lc_list (K := K) (a := a) (xs := xs) (fun k H' => Same H1 H' ∧ PL H' D (((m.take k).filter f).map v)) ⟨same_new nD, ⟨[], upd_same, .nil⟩⟩ (fun k H' _ p => SqL.of (p.1 _ _ ea)) ?_ ?_
    · rintro k x H' hk ⟨s2', e2⟩
      obtain ⟨y, hy, tt, rfl, et⟩ := pr_get px hk
      have my : y ∈ m := List.mem_of_getElem? hy
      have hkl : k < m.length := (List.getElem?_eq_some_iff.mp hy).1
      refine ⟨tt, _, rfl, SqT.of (s2' _ _ et), rfl, _, _, rfl, _, _, rfl, rfl, hw _ _, ?_⟩
      refine ht y my H' (Same.trans (Same.trans s0 s1) s2') _ fun H3 s3 => ?_
      rw [take_snoc hy, List.filter_append, List.map_append]
      cases hf : f y with
      | false =>
        refine iteF ⟨Same.trans s2' s3, ?_⟩
        rw [List.filter_cons_of_neg (by rw [hf]; decide), List.filter_nil, List.map_nil, List.append_nil]
        exact e2.mono s3
      | true =>
        refine iteT ?_
        refine he y my hf H3 (Same.trans (Same.trans (Same.trans s0 s1) s2') s3) _ fun w H4 s4 pw => ?_
        obtain ⟨zs, ez, pz⟩ := e2.mono (Same.trans s3 s4)
        refine ⟨_, ez, ?_, same_mut (Same.trans s2' (Same.trans s3 s4)) nD, ⟨_, upd_same, ?_⟩⟩
        · rw [pr_len pz, List.length_map]
          have := List.length_filter_le f (m.take k)
          rw [List.length_take] at this
          exact Evl.sz_lt (by omega)
        · rw [List.filter_cons_of_pos hf, List.filter_nil]
          exact pr_snoc (PTs.mono (tp_mut ez) pz) (PT.mono (tp_mut ez) pw)
    · rintro H' ⟨s2', e2⟩
      rw [pr_len px, List.take_length] at e2
      exact q D H' (Same.free s1 nD) (Same.trans s1 s2') e2
theorem et_yes : Evl.EvT tYes σ H true := fun H1 _ _ q => q H1 (Evl.Ex.refl H1)
/-- without a test -/
theorem el_lcP0 {m : List I2} {i j : Nat} {vs : List Nat} (v : I2 → V) (h : EvQ tl σ H m) (hm : m.length ≤ 40000) (hw : ∀ a b, wipe (((wipe σ vs).set i a).set j b) vs = wipe σ vs)
    (he : ∀ x ∈ m, Evl.Ev te (s2 σ vs i j x) H (v x)) : Evl.EvL (tLc (iList K tl) (gTup K 2 (gCons (gName i) (gCons (gName j) gNil))) tYes te vs) σ H (m.map v) := by
  have := el_lcP (K := K) (t := tYes) (te := te) (fun _ => true) v h hm hw (fun x _ => et_yes) (fun x mx _ => he x mx)
  rw [List.filter_eq_self.mpr (fun _ _ => rfl)] at this
  exact this
theorem evn_lcP0 {m : List I2} {i j : Nat} {vs : List Nat} (v : I2 → I2) (h : EvQ tl σ H m) (hm : m.length ≤ 40000) (hw : ∀ a b, wipe (((wipe σ vs).set i a).set j b) vs = wipe σ vs)
    (he : ∀ x ∈ m, EvP te (s2 σ vs i j x) H (v x)) : EvN (tLc (iList K tl) (gTup K 2 (gCons (gName i) (gCons (gName j) gNil))) tYes te vs) σ H (m.map v) := by
  have := evn_lcP (K := K) (t := tYes) (te := te) (fun _ => true) v h hm hw (fun x _ => et_yes) (fun x mx _ => he x mx)
  rw [List.filter_eq_self.mpr (fun _ _ => rfl)] at this
  exact this
theorem evn_sorted {m : List I2} (h : EvQ te σ H m) : EvN (tCB (rSortedPO K) (tCons te tNil)) σ H (srt m) := fun H0 s0 Q q =>
  h H0 s0 _ fun a H1 s1 ha => by
    obtain ⟨xs, ea, px⟩ := ha
    refine ⟨a, xs, kOf H1, rfl, SqL.of ea, fun x m => ?_, fun ys p h1 h2 np => ?_⟩
    · obtain ⟨h, _, r⟩ := pr_mem px m
      exact r.tup
    · exact q p _ (Same.free s1 np) (Same.trans s1 (same_new np)) ⟨ys, upd_same, (sorted_is px h1 h2).mono (tp_new np)⟩
theorem ev_sumL {ns : List Int} (h : Evl.EvL te σ H (ns.map V.int)) : Evl.Ev (tCB (rSum K) (tCons te tNil)) σ H (.int ns.sum) := fun H0 s0 Q q =>
  h H0 s0 _ fun p H1 _ s1 hp => ⟨p, ns, rfl, SqL.of hp, q H1 s1⟩
theorem ev_anyL {bs : List Bool} (h : Evl.EvL te σ H (bs.map V.bl)) : Evl.Ev (tCB (rAny K) (tCons te tNil)) σ H (.bl (bs.any id)) := fun H0 s0 Q q =>
  h H0 s0 _ fun p H1 _ s1 hp => ⟨p, bs, rfl, SqL.of hp, q H1 s1⟩
theorem ev_allL {bs : List Bool} (h : Evl.EvL te σ H (bs.map V.bl)) : Evl.Ev (tCB (rAll K) (tCons te tNil)) σ H (.bl (bs.all id)) := fun H0 s0 Q q =>
  h H0 s0 _ fun p H1 _ s1 hp => ⟨p, bs, rfl, SqL.of hp, q H1 s1⟩
theorem ev_intB {b : Bool} (h : Evl.Ev te σ H (.bl b)) : Evl.Ev (tCB (fun xs H Q => (∃ i, xs = [.int i] ∧ Q (.int i) H) ∨ ∃ k, xs = [.bl k] ∧ Q (.int (if k then 1 else 0)) H) (tCons te tNil)) σ H (.int (if b then 1 else 0)) := fun H0 s0 Q q =>
  h H0 s0 _ fun H1 s1 => .inr ⟨b, rfl, q H1 s1⟩
/-- a <= b <= c -/
theorem ev_chain {a b c : Int} {tc : TE} (h1 : Evl.Ev ta σ H (.int a)) (h2 : Evl.Ev tb σ H (.int b)) (h3 : Evl.Ev tc σ H (.int c)) :
    Evl.Ev (tChain (rI0 fun i j => .bl (decide (i ≤ j))) (rI0 fun i j => .bl (decide (i ≤ j))) ta tb tc) σ H (.bl (decide (a ≤ b) && decide (b ≤ c))) := fun H0 s0 Q q =>
  h1 H0 s0 _ fun H1 s1 => h2 H1 (Same.trans s0 s1) _ fun H2 s2 => ⟨a, b, rfl, rfl, decide (a ≤ b), rfl, by
    generalize decide (a ≤ b) = d at q ⊢
    cases d with
    | false => exact iteF (q H2 (Same.trans s1 s2))
    | true =>
      refine iteT ?_
      exact h3 H2 (Same.trans (Same.trans s0 s1) s2) _ fun H3 s3 => ⟨b, c, rfl, rfl, q H3 (Same.trans (Same.trans s1 s2) s3)⟩⟩
theorem evn_str {hs : List I2} (h : EvQ ta σ H hs) (hb : HB hs) : EvN (tCall spStr [] C8.E0 (tCons ta tNil)) σ H (stretches hs) := fun H0 s0 Q q =>
  h H0 s0 _ fun a H1 s1 ha => ⟨a, hs, rfl, ha, hb, fun H2 p s2 np hp => q p H2 (Same.free s1 np) (Same.trans s1 s2) hp⟩
/-- xs[i] = a pair -/
theorem q_setP {D : Ends} {tz : TS} {l : Addr} {m : List I2} {k : Nat} {x : I2} (hp : PL H l m) (h : EvP te σ H x) (ho : Evl.Ev ta σ H (.ref l)) (hi : Evl.Ev tb σ H (.int (k : Int))) (hk : k < m.length)
    (cont : ∀ xs v H1, Same H H1 → H1 l = some (.lst xs) → PTs H1 xs m → PT H1 v x → tz D σ (upd H1 l (.lst (xs.set k v)))) : tSeq (tAsg te (gSub ta tb rSetL)) tz D σ H :=
  h H (Same.refl H) _ fun v H1 s1 pv => ho H1 s1 _ fun H2 s2 => hi H2 (Same.trans s1 s2) _ fun H3 s3 => by
    obtain ⟨xs, e, px⟩ := hp.mono (Same.trans (Same.trans s1 s2) s3)
    exact ⟨l, xs, _, k, rfl, rfl, e, Evl.ixN_nat (by rw [pr_len px]; exact hk), cont xs v H3 (Same.trans (Same.trans s1 s2) s3) e px (pv.mono (same_tp (Same.trans s2 s3)))⟩
end
theorem hasB_cons (s : I2) (l : List I2) (p : Int) : hasB (s :: l) p = ((decide (s.1 ≤ p) && decide (p ≤ s.2)) || hasB l p) := rfl
theorem hasB_app (a b : List I2) (p : Int) : hasB (a ++ b) p = (hasB a p || hasB b p) := by
  unfold hasB
  rw [List.any_append]
end Wk
/-! heaps cut, put together, turned about; how long and how great stretches are -/
namespace Wk
open PySem PySem.Spec PyProof.Rows L2 Spr
theorem HB.sub {hs m : List I2} (h : HB hs) (hl : m.length ≤ hs.length) (hm : ∀ x ∈ m, x ∈ hs) : HB m := ⟨Nat.le_trans hl h.len, fun x q => h.pos x (hm x q), fun x q => h.w1 x (hm x q), fun x q => h.w2 x (hm x q)⟩
theorem HB.app {a b : List I2} (h : HB a) (g : HB b) (hl : a.length + b.length ≤ 1000) : HB (a ++ b) := by
  refine ⟨by rw [List.length_append]; exact hl, fun x m => ?_, fun x m => ?_, fun x m => ?_⟩ <;> rcases List.mem_append.mp m with m | m
  · exact h.pos x m
  · exact g.pos x m
  · exact h.w1 x m
  · exact g.w1 x m
  · exact h.w2 x m
  · exact g.w2 x m
theorem HB.cut {hs : List I2} (h : HB hs) (lo hi : Option Int) : HB (cutI hs lo hi) := h.sub (cutI_len _ _ _) fun _ m => cutI_mem m
theorem HB.rev {hs : List I2} (h : HB hs) : HB hs.reverse := h.sub (by rw [List.length_reverse]; exact Nat.le_refl _) fun _ m => List.mem_reverse.mp m
theorem cut_last (m : List I2) : cutI m none (some (-1)) = m.dropLast := by
  unfold cutI
  have e1 : HT.sIx m.length 0 none = 0 := rfl
  have e2 : HT.sIx m.length m.length (some (-1)) = m.length - 1 := by
    show (if (-1 : Int) < 0 then ((-1 : Int) + (m.length : Int)).toNat else min (-1 : Int).toNat m.length) = _
    rw [if_pos (by decide)]
    omega
  rw [e1, e2, List.drop_zero, Nat.sub_zero, List.dropLast_eq_take]
theorem stretches_wd {hs : List I2} (h : HB hs) : ∀ s ∈ stretches hs, Wd 700 s.1 ∧ Wd 700 s.2 := by
  have hc := h.clus
  refine stretches_in h.pos (p := fun x => Wd 700 x) fun c mc x h1 h2 => ?_
  have i1 : hs.length ≤ 1001 := Nat.le_trans h.len (by decide)
  obtain ⟨c0, w1, w2⟩ := hc.get i1 (List.mem_reverse.mp mc)
  obtain ⟨e1, e2⟩ := ends_wd (b := c.2) c0 w1 w2
  exact abs_mid h1 h2 e1 e2
theorem stretches_len {hs : List I2} (h : HB hs) : (stretches hs).length ≤ 3000 := by
  have h1 := joins_len ((clus hs).flatMap parts) []
  have h2 := flat_len (clus hs)
  have h3 := h.clus.len
  have h4 := h.len
  have h5 : (clus hs).length = (clusS (srt hs)).length := by unfold clus; rw [List.length_reverse]
  unfold stretches
  rw [List.length_reverse]
  rw [List.length_nil] at h1
  omega
end Wk
/-! the walk, part T: sums, loops that only look, calls as values -/
namespace Wk
open PySem PySem.Spec PyProof.Rows L2 Spr
section
variable {K : PySem.W.Frag} {σ : L2.St} {H : Hp} {te ta tb tl : TE} {t : TT} {tr : TA}
/-- sum([e for a, b in pairs]) -/
theorem ev_sumP0 {m : List I2} {i j : Nat} {vs : List Nat} (f : I2 → Int) (h : EvQ tl σ H m) (hm : m.length ≤ 40000) (hw : ∀ a b, wipe (((wipe σ vs).set i a).set j b) vs = wipe σ vs)
    (he : ∀ x ∈ m, Evl.Ev te (s2 σ vs i j x) H (.int (f x))) : Evl.Ev (tCB (rSum K) (tCons (tLc (iList K tl) (gTup K 2 (gCons (gName i) (gCons (gName j) gNil))) tYes te vs) tNil)) σ H (.int (tot f m)) := by
  unfold tot
  refine ev_sumL ?_
  rw [List.map_map]
  exact el_lcP0 (K := K) (V.int ∘ f) h hm hw he
/-- sum([e for a, b in pairs if t]) -/
theorem ev_sumP {m : List I2} {i j : Nat} {vs : List Nat} (g : I2 → Bool) (f : I2 → Int) (h : EvQ tl σ H m) (hm : m.length ≤ 40000) (hw : ∀ a b, wipe (((wipe σ vs).set i a).set j b) vs = wipe σ vs)
    (ht : ∀ x ∈ m, Evl.EvT t (s2 σ vs i j x) H (g x)) (he : ∀ x ∈ m, g x = true → Evl.Ev te (s2 σ vs i j x) H (.int (f x))) : Evl.Ev (tCB (rSum K) (tCons (tLc (iList K tl) (gTup K 2 (gCons (gName i) (gCons (gName j) gNil))) t te vs) tNil)) σ H (.int (tot f (m.filter g))) := by
  unfold tot
  refine ev_sumL ?_
  rw [List.map_map]
  exact el_lcP (K := K) g (V.int ∘ f) h hm hw ht he
/-- [e for p in pairs], the target a name -/
theorem el_lcN {m : List I2} {i : Nat} {vs : List Nat} (v : I2 → V) (h : EvQ tl σ H m) (hm : m.length ≤ 40000) (hw : ∀ a, wipe ((wipe σ vs).set i a) vs = wipe σ vs)
    (he : ∀ x ∈ m, ∀ pv H1, Same H H1 → PT H1 pv x → Evl.Ev te ((wipe σ vs).set i (some pv)) H1 (v x)) :
    Evl.EvL (tLc (iList K tl) (gName i) tYes te vs) σ H (m.map v) := fun H0 s0 Q q =>
  h H0 s0 _ fun a H1 s1 ha => by
    obtain ⟨xs, ea, px⟩ := ha
    refine ⟨a, rfl, ⟨xs, SqL.of ea⟩, fun D nD => ?_⟩
    refine lc_list (K := K) (a := a) (xs := xs) (fun k H' => Same H1 H' ∧ H' D = some (.lst ((m.take k).map v))) ⟨same_new nD, upd_same⟩ (fun k H' _ p => SqL.of (p.1 _ _ ea)) ?_ ?_
    · rintro k x H' hk ⟨s2', e2⟩
      obtain ⟨y, hy, pv⟩ := pr_get px hk
      have my : y ∈ m := List.mem_of_getElem? hy
      have hkl : k < m.length := (List.getElem?_eq_some_iff.mp hy).1
      refine ⟨hw _, yesT ?_⟩
      refine he y my x H' (Same.trans (Same.trans s0 s1) s2') (pv.mono (same_tp s2')) H' (Evl.Ex.refl _) _ fun H4 s4 => ?_
      refine ⟨_, s4 _ _ e2, ?_, same_mut (Same.trans s2' s4) nD, ?_⟩
      · rw [List.length_map, List.length_take]
        exact Evl.sz_lt (by omega)
      · rw [upd_same, take_snoc hy, List.map_append]
        rfl
    · rintro H' ⟨s2', e2⟩
      rw [pr_len px, List.take_length] at e2
      exact q D H' (Same.free s1 nD) (Same.trans s1 s2') e2
/-- calls -/
theorem ev_whole {i : Int} (h : Evl.Ev te σ H (.int i)) : Evl.Ev (tCall (spWhole K) [] C8.E0 (tCons te tNil)) σ H (.bl true) := fun H0 s0 Q q =>
  h H0 s0 _ fun H1 s1 => ⟨.int i, "int", rfl, .base (.int i), by decide, q H1 s1⟩
/-! ### loops that only look: J of the slots, what stood stands -/
variable {D : Ends} {tu tz : TS}
/-- the ends of a turn: J, and what stood at B stands -/
abbrev tn (J : L2.St → Prop) (B : Hp) (D : Ends) : Ends := { D with nx := fun σ2 H2 => J σ2 ∧ Same B H2, ct := fun σ2 H2 => J σ2 ∧ Same B H2, bk := D.nx }
theorem s_forP {m : List I2} {i j : Nat} (h : EvQ tl σ H m) (J : L2.St → Prop) (h0 : J σ)
    (hs : ∀ x ∈ m, ∀ B σ' H1, Same H B → J σ' → Same B H1 → tu (tn J B D) ((σ'.set i (some (.int x.1))).set j (some (.int x.2))) H1)
    (hd : ∀ σ' H1, J σ' → Same H H1 → D.nx σ' H1) : tFor (iList K tl) (gTup K 2 (gCons (gName i) (gCons (gName j) gNil))) tu D σ H :=
  h H (Same.refl H) _ fun a H1 s1 ha => by
    obtain ⟨xs, ea, px⟩ := ha
    refine ⟨a, rfl, ⟨xs, SqL.of ea⟩, for_list (K := K) (a := a) (xs := xs) (fun k σ' H' => J σ' ∧ Same H1 H') ⟨h0, Same.refl _⟩ (fun k σ' H' _ p => SqL.of (p.2 _ _ ea)) ?_ (fun σ' H' p => hd σ' H' p.1 (Same.trans s1 p.2))⟩
    rintro k x σ' H' hk ⟨jj, s2⟩
    obtain ⟨y, hy, t, rfl, et⟩ := pr_get px hk
    exact ⟨t, _, rfl, SqT.of (s2 _ _ et), rfl, _, _, rfl, _, _, rfl, rfl, hs y (List.mem_of_getElem? hy) H1 σ' H' s1 jj s2⟩
theorem s_forT {xs : List V} {i : Nat} (h : Evl.EvU tl σ H xs) (J : L2.St → Prop) (h0 : J σ)
    (hs : ∀ v ∈ xs, ∀ B σ' H1, Same H B → J σ' → Same B H1 → tu (tn J B D) (σ'.set i (some v)) H1)
    (hd : ∀ σ' H1, J σ' → Same H H1 → D.nx σ' H1) : tFor (iTup K tl) (gName i) tu D σ H :=
  h H (Same.refl H) _ fun a H1 _ s1 ea =>
    ⟨a, rfl, ⟨xs, SqT.of ea⟩, for_tup (K := K) (a := a) (xs := xs) (fun k σ' H' => J σ' ∧ Same H1 H') ⟨h0, Same.refl _⟩ (fun k σ' H' _ p => SqT.of (p.2 _ _ ea)) (fun k x σ' H' hk p => hs x (List.mem_of_getElem? hk) H1 σ' H' s1 p.1 p.2) (fun σ' H' p => hd σ' H' p.1 (Same.trans s1 p.2))⟩
theorem s_forL {xs : List V} {i : Nat} (h : Evl.EvL tl σ H xs) (J : L2.St → Prop) (h0 : J σ)
    (hs : ∀ v ∈ xs, ∀ B σ' H1, Same H B → J σ' → Same B H1 → tu (tn J B D) (σ'.set i (some v)) H1)
    (hd : ∀ σ' H1, J σ' → Same H H1 → D.nx σ' H1) : tFor (iList K tl) (gName i) tu D σ H :=
  h H (Same.refl H) _ fun a H1 _ s1 ea =>
    ⟨a, rfl, ⟨xs, SqL.of ea⟩, for_list (K := K) (a := a) (xs := xs) (fun k σ' H' => J σ' ∧ Same H1 H') ⟨h0, Same.refl _⟩ (fun k σ' H' _ p => SqL.of (p.2 _ _ ea)) (fun k x σ' H' hk p => hs x (List.mem_of_getElem? hk) H1 σ' H' s1 p.1 p.2) (fun σ' H' p => hd σ' H' p.1 (Same.trans s1 p.2))⟩
theorem s_forV {xs : List V} {i a : Addr} {k : Nat} (hk : σ[k]? = some (some (.ref a))) (ea : H a = some (.lst xs)) (J : L2.St → Prop) (h0 : J σ)
    (hs : ∀ v ∈ xs, ∀ B σ' H1, Same H B → J σ' → Same B H1 → tu (tn J B D) (σ'.set i (some v)) H1)
    (hd : ∀ σ' H1, J σ' → Same H H1 → D.nx σ' H1) : tFor (iList K (tVar k)) (gName i) tu D σ H :=
  ⟨.ref a, hk, a, rfl, ⟨xs, SqL.of ea⟩, for_list (K := K) (a := a) (xs := xs) (fun k σ' H' => J σ' ∧ Same H H') ⟨h0, Same.refl _⟩ (fun k σ' H' _ p => SqL.of (p.2 _ _ ea)) (fun k x σ' H' hk p => hs x (List.mem_of_getElem? hk) H σ' H' (Same.refl _) p.1 p.2) (fun σ' H' p => hd σ' H' p.1 p.2)⟩
theorem s_forR {n i : Nat} (hn : n < 1000) (J : L2.St → Prop) (h0 : J σ)
    (hs : ∀ k : Nat, k < n → ∀ B σ' H1, Same H B → J σ' → Same B H1 → tu (tn J B D) (σ'.set i (some (.int (0 + (k : Int))))) H1)
    (hd : ∀ σ' H1, J σ' → Same H H1 → D.nx σ' H1) : tFor (iRng1 (tCons (tC (.int (n : Int))) tNil)) (gName i) tu D σ H :=
  ⟨(n : Int), rfl, by omega, by omega, for_range (lo := 0) (n := (n : Int).toNat) (fun k σ' H' => J σ' ∧ Same H H') ⟨h0, Same.refl _⟩ (fun k σ' H' hk p => hs k (by omega) H σ' H' (Same.refl _) p.1 p.2) (fun σ' H' p => hd σ' H' p.1 p.2)⟩
theorem q_forP {m : List I2} {i j : Nat} (h : EvQ tl σ H m) (J : L2.St → Prop) (h0 : J σ)
    (hs : ∀ x ∈ m, ∀ B σ' H1, Same H B → J σ' → Same B H1 → tu (tn J B { D with nx := tz D }) ((σ'.set i (some (.int x.1))).set j (some (.int x.2))) H1)
    (hd : ∀ σ' H1, J σ' → Same H H1 → tz D σ' H1) : tSeq (tFor (iList K tl) (gTup K 2 (gCons (gName i) (gCons (gName j) gNil))) tu) tz D σ H := s_forP (D := { D with nx := tz D }) h J h0 hs hd
theorem q_forT {xs : List V} {i : Nat} (h : Evl.EvU tl σ H xs) (J : L2.St → Prop) (h0 : J σ)
    (hs : ∀ v ∈ xs, ∀ B σ' H1, Same H B → J σ' → Same B H1 → tu (tn J B { D with nx := tz D }) (σ'.set i (some v)) H1)
    (hd : ∀ σ' H1, J σ' → Same H H1 → tz D σ' H1) : tSeq (tFor (iTup K tl) (gName i) tu) tz D σ H := s_forT (D := { D with nx := tz D }) h J h0 hs hd
theorem q_forL {xs : List V} {i : Nat} (h : Evl.EvL tl σ H xs) (J : L2.St → Prop) (h0 : J σ)
    (hs : ∀ v ∈ xs, ∀ B σ' H1, Same H B → J σ' → Same B H1 → tu (tn J B { D with nx := tz D }) (σ'.set i (some v)) H1)
    (hd : ∀ σ' H1, J σ' → Same H H1 → tz D σ' H1) : tSeq (tFor (iList K tl) (gName i) tu) tz D σ H := s_forL (D := { D with nx := tz D }) h J h0 hs hd
theorem q_forV {xs : List V} {i a : Addr} {k : Nat} (hk : σ[k]? = some (some (.ref a))) (ea : H a = some (.lst xs)) (J : L2.St → Prop) (h0 : J σ)
    (hs : ∀ v ∈ xs, ∀ B σ' H1, Same H B → J σ' → Same B H1 → tu (tn J B { D with nx := tz D }) (σ'.set i (some v)) H1)
    (hd : ∀ σ' H1, J σ' → Same H H1 → tz D σ' H1) : tSeq (tFor (iList K (tVar k)) (gName i) tu) tz D σ H := s_forV (D := { D with nx := tz D }) hk ea J h0 hs hd
theorem q_forR {n i : Nat} (hn : n < 1000) (J : L2.St → Prop) (h0 : J σ)
    (hs : ∀ k : Nat, k < n → ∀ B σ' H1, Same H B → J σ' → Same B H1 → tu (tn J B { D with nx := tz D }) (σ'.set i (some (.int (0 + (k : Int))))) H1)
    (hd : ∀ σ' H1, J σ' → Same H H1 → tz D σ' H1) : tSeq (tFor (iRng1 (tCons (tC (.int (n : Int))) tNil)) (gName i) tu) tz D σ H := s_forR (D := { D with nx := tz D }) hn J h0 hs hd
/-- for m in (list, list, list) -/
theorem q_forN3 {t1 t2 t3 : TE} {m1 m2 m3 : List I2} {i : Nat} (h1 : EvN t1 σ H m1) (h2 : EvN t2 σ H m2) (h3 : EvN t3 σ H m3) (J : L2.St → Prop) (h0 : J σ)
    (hs : ∀ m ∈ [m1, m2, m3], ∀ p B σ' H1, Same H B → PL B p m → J σ' → Same B H1 → tu (tn J B { D with nx := tz D }) (σ'.set i (some (.ref p))) H1)
    (hd : ∀ σ' H1, J σ' → Same H H1 → tz D σ' H1) : tSeq (tFor (iTup K (tTup (tCons t1 (tCons t2 (tCons t3 tNil))))) (gName i) tu) tz D σ H :=
  h1 H (Same.refl H) _ fun p1 H1 _ s1 hp1 => h2 H1 s1 _ fun p2 H2 _ s2 hp2 => h3 H2 (Same.trans s1 s2) _ fun p3 H3 _ s3 hp3 => ⟨(by show 3 ≤ sizeLine; decide), fun t nt => by
    have s4 := same_new (o := .tup [.ref p1, .ref p2, .ref p3]) nt
    have s04 : Same H (upd H3 t (.tup [.ref p1, .ref p2, .ref p3])) := Same.trans (Same.trans (Same.trans s1 s2) s3) s4
    refine ⟨t, rfl, ⟨_, SqT.of upd_same⟩, for_tup (K := K) (a := t) (xs := [.ref p1, .ref p2, .ref p3]) (fun k σ' H' => J σ' ∧ Same (upd H3 t (.tup [.ref p1, .ref p2, .ref p3])) H') ⟨h0, Same.refl _⟩ (fun k σ' H' _ p => SqT.of (p.2 _ _ upd_same)) (fun k x σ' H' hk p => ?_) (fun σ' H' p => hd σ' H' p.1 (Same.trans s04 p.2))⟩
    have hx : ∃ m ∈ [m1, m2, m3], ∃ q, x = .ref q ∧ PL (upd H3 t (.tup [.ref p1, .ref p2, .ref p3])) q m := by
      match k, hk with
      | 0, hk => cases hk; exact ⟨m1, by simp, p1, rfl, hp1.mono ((Same.trans s2 s3).trans s4)⟩
      | 1, hk => cases hk; exact ⟨m2, by simp, p2, rfl, hp2.mono (Same.trans s3 s4)⟩
      | 2, hk => cases hk; exact ⟨m3, by simp, p3, rfl, hp3.mono s4⟩
    obtain ⟨m, mm, q, rfl, hq⟩ := hx
    exact hs m mm q _ σ' H' s04 hq p.1 p.2⟩
end
end Wk
/-! the walk, part I: lists of values that only look on -/
namespace Wk
open PySem PySem.Spec PyProof.Rows L2 Spr
section
variable {K : PySem.W.Frag} {σ : L2.St} {H : Hp} {te ta tb tl : TE} {t : TT}
/-- a list of such values -/
def EvI (te : TE) (σ : L2.St) (H : Hp) (xs : List V) : Prop := ∀ H1, Same H H1 → ∀ Q : VK, (∀ p H2, Same H1 H2 → H2 p = some (.lst xs) → Q (.ref p) H2) → te σ H1 Q
theorem evi_of {xs : List V} (h : Evl.EvL te σ H xs) : EvI te σ H xs := fun H1 s Q k => h H1 s Q fun p H2 _ s2 hp => k p H2 s2 hp
theorem evi_var {i : Nat} {a : Addr} {xs : List V} (h : σ[i]? = some (some (.ref a))) (p : H a = some (.lst xs)) : EvI (tVar i) σ H xs := fun H1 s Q k => ⟨.ref a, h, k a H1 (Same.refl H1) (s _ _ p)⟩
theorem el_cat {xs ys : List V} (h1 : EvI ta σ H xs) (h2 : EvI tb σ H ys) (hl : xs.length + ys.length ≤ 100000) : Evl.EvL (tOp rCat ta tb) σ H (xs ++ ys) := fun H1 s Q k =>
  h1 H1 s _ fun p1 H2 s2 hp1 => h2 H2 (Same.trans s s2) _ fun p2 H3 s3 hp2 =>
    ⟨p1, p2, xs, ys, rfl, rfl, s3 _ _ hp1, hp2, Evl.sz_of hl, fun p np => k p _ (Same.free (Same.trans s2 s3) np) (Same.trans (Same.trans s2 s3) (same_new np)) upd_same⟩
theorem ev_ixI {xs : List V} {i : Int} {v : V} (h : EvI te σ H xs) (h2 : Evl.Ev tb σ H (.int i)) (hv : atI xs i = some v) : Evl.Ev (tOp (rIxL K) te tb) σ H v := fun H1 s Q k =>
  h H1 s _ fun p H2 s2 hp => h2 H2 (Same.trans s s2) _ fun H3 s3 => ⟨p, xs, i, v, rfl, rfl, SqL.of (s3 _ _ hp), hv, k H3 (Same.trans s2 s3)⟩
/-- [e for x in list], [e for x in tuple] -/
theorem el_lcI {xs : List V} {i : Nat} {vs : List Nat} (v : V → V) (h : EvI tl σ H xs) (hm : xs.length ≤ 40000) (hw : ∀ a, wipe ((wipe σ vs).set i a) vs = wipe σ vs)
    (he : ∀ x ∈ xs, Evl.Ev te ((wipe σ vs).set i (some x)) H (v x)) : Evl.EvL (tLc (iList K tl) (gName i) tYes te vs) σ H (xs.map v) := fun H0 s0 Q q =>
  h H0 s0 _ fun a H1 s1 ea => ⟨a, rfl, ⟨xs, SqL.of ea⟩, fun D nD =>
    lc_list (K := K) (a := a) (xs := xs) (fun k H' => Same H1 H' ∧ H' D = some (.lst ((xs.take k).map v))) ⟨same_new nD, upd_same⟩ (fun k H' _ p => SqL.of (p.1 _ _ ea))
      (fun k x H' hk p => ⟨hw _, yesT (he x (List.mem_of_getElem? hk) H' (Same.trans (Same.trans s0 s1) p.1) _ fun H4 s4 => ⟨_, s4 _ _ p.2, by
        rw [List.length_map, List.length_take]
        exact Evl.sz_lt (by omega), same_mut (Same.trans p.1 s4) nD, by
        rw [upd_same, take_snoc hk, List.map_append]
        rfl⟩)⟩)
      (fun H' p => q D H' (Same.free s1 nD) (Same.trans s1 p.1) (by
        have := p.2
        rw [List.take_length] at this
        exact this))⟩
theorem el_lcT {xs : List V} {i : Nat} {vs : List Nat} (v : V → V) (h : Evl.EvU tl σ H xs) (hm : xs.length ≤ 40000) (hw : ∀ a, wipe ((wipe σ vs).set i a) vs = wipe σ vs)
    (he : ∀ x ∈ xs, Evl.Ev te ((wipe σ vs).set i (some x)) H (v x)) : Evl.EvL (tLc (iTup K tl) (gName i) tYes te vs) σ H (xs.map v) := fun H0 s0 Q q =>
  h H0 s0 _ fun a H1 _ s1 ea => ⟨a, rfl, ⟨xs, SqT.of ea⟩, fun D nD =>
    lc_tup (K := K) (a := a) (xs := xs) (fun k H' => Same H1 H' ∧ H' D = some (.lst ((xs.take k).map v))) ⟨same_new nD, upd_same⟩ (fun k H' _ p => SqT.of (p.1 _ _ ea))
      (fun k x H' hk p => ⟨hw _, yesT (he x (List.mem_of_getElem? hk) H' (Same.trans (Same.trans s0 s1) p.1) _ fun H4 s4 => ⟨_, s4 _ _ p.2, by
        rw [List.length_map, List.length_take]
        exact Evl.sz_lt (by omega), same_mut (Same.trans p.1 s4) nD, by
        rw [upd_same, take_snoc hk, List.map_append]
        rfl⟩)⟩)
      (fun H' p => q D H' (Same.free s1 nD) (Same.trans s1 p.1) (by
        have := p.2
        rw [List.take_length] at this
        exact this))⟩
/-- x = a op b, laid open -/
theorem peel_op {r : R2} {i : Nat} {tz : TS} {D : Ends} (h : ta σ H fun x H1 => tb σ H1 fun y H2 => r x y H2 fun v H3 => tz D (σ.set i (some v)) H3) : tSeq (tAsg (tOp r ta tb) (gName i)) tz D σ H := h
end
end Wk
/-! the walk, part O: written -/
namespace Wk
open PySem PySem.Spec PyProof.Rows L2 Spr
def most : Int := 1000000000000000000000000000000000000000000000000000000000000
def wPair (h : I2) : Str := (Str.ofString (toString h.1)) ++ ":" ++ (Str.ofString (toString h.2))
def wText (hs : List I2) : Str := if hs = [] then "-" else Txt.join " " (hs.map wPair)
def absI (i : Int) : Int := if i < 0 then -i else i
def okW (h : I2) : Bool := decide (absI h.1 < most) && decide (h.2 < most)
section
variable {K : PySem.W.Frag} {σ : L2.St} {H : Hp} {te ta tb tl : TE}
theorem ev_abs {i : Int} (h : Evl.Ev te σ H (.int i)) : Evl.Ev (tCB (fun xs H Q => ∃ i, xs = [.int i] ∧ Q (.int (if i < 0 then -i else i)) H) (tCons te tNil)) σ H (.int (absI i)) := fun H0 s0 Q q =>
  h H0 s0 _ fun H1 s1 => ⟨i, rfl, q H1 s1⟩
theorem ev_str {i : Int} (h : Evl.Ev te σ H (.int i)) (hz : i.natAbs.log2 < 1920) : Evl.Ev (tCB (fun xs H Q => ∃ i : Int, xs = [.int i] ∧ i.natAbs.log2 < 1920 ∧ Q (.str (toString i)) H) (tCons te tNil)) σ H (.str (Str.ofString (toString i))) := fun H0 s0 Q q =>
  h H0 s0 _ fun H1 s1 => ⟨i, rfl, hz, q H1 s1⟩
theorem rv_addS {a b : Str} (h : a.length + b.length ≤ 100000) : Evl.RV (fun x y H Q => ∃ i j, x = .str i ∧ y = .str j ∧ i.length + j.length ≤ sizeLine ∧ Q (.str (i ++ j)) H) (.str a) (.str b) H (.str (a ++ b)) := fun H1 _ _ q =>
  ⟨a, b, rfl, rfl, Evl.sz_of h, q H1 (Evl.Ex.refl H1)⟩
end
theorem log_wd {i : Int} (h : Wd 200 i) : i.natAbs.log2 < 1920 := by
  have h : i.natAbs < 2 ^ 200 := h
  by_cases z : i.natAbs = 0
  · rw [z]; decide
  · exact Nat.lt_trans ((Nat.log2_lt z).mpr h) (by decide)
theorem num_len {i : Int} (h : Wd 200 i) : (Str.ofString (toString i)).length ≤ 1921 := int_text_len_1921 (log_wd h)
theorem str_len_app (a b : Str) : (a ++ b).length = a.length + b.length := by
  show (a.cps ++ b.cps).size = a.cps.size + b.cps.size
  exact Array.size_append
theorem wPair_len {h : I2} (h1 : Wd 200 h.1) (h2 : Wd 200 h.2) : (wPair h).length ≤ 3843 := by
  have a := num_len h1
  have b := num_len h2
  unfold wPair
  rw [str_len_app, str_len_app]
  have e : (":" : Str).length = 1 := rfl
  omega
theorem wSum {hs : List I2} (h : HB hs) : ((hs.map wPair).map (·.length)).sum ≤ 3843 * hs.length := by
  have : ∀ l : List I2, (∀ x ∈ l, Wd 200 x.1 ∧ Wd 200 x.2) → ((l.map wPair).map (·.length)).sum ≤ 3843 * l.length := by
    intro l
    induction l with
    | nil => intro _; exact Nat.le_refl _
    | cons x l ih =>
      intro q
      rw [List.map_cons, List.map_cons, List.sum_cons, List.length_cons]
      have a := wPair_len (q x List.mem_cons_self).1 (q x List.mem_cons_self).2
      have b := ih fun y m => q y (List.mem_cons_of_mem _ m)
      omega
  exact this hs fun x m => ⟨h.w1 x m, h.w2 x m⟩
section
variable {P : Program} {w : World} {K : PySem.W.Frag} {mg : Str → Option Value} {base : Heap}
def spWritten : Sp := fun vs H Q _ => ∃ (a : Addr) (hs : List I2), vs = [.ref a] ∧ PL H a hs ∧ HB hs ∧ hs.all okW = true ∧ ∀ H', Same H H' → Q (.str (wText hs)) H'
theorem cal_written {t : Tok} (T : Top K mg) (gM : mg "MOST" = some (.int 1000000000000000000000000000000000000000000000000000000000000 t)) : C8.Cal P w K mg base 4 "written" spWritten [] := by
  have c_check_heaps : C8.Cal P w K mg base 3 "check_heaps" (spCheck K) [] := cal_check_heaps T
  refine T.d_written.cal sc_written (fun vs H Q E h => ?_) (fun f cdv A outer s H vs Q E hr h => ?_)
  · obtain ⟨a, hs, rfl, _⟩ := h
    rfl
  · obtain ⟨a, hs, rfl, ha, hb, hok, q⟩ := h
    refine ⟨_, (pss_cons (ps_expr (C8.pe_c c_check_heaps hr (by decide) (by rfl) (pa_cons (pv 0) pa_nil)))
 (pss_cons (ps_if (pt_not (pt_val (pe_callB (cr_all rfl) (by rfl) T.m_all (by decide +kernel) (pa_cons (pe_lc (own := [("place", 1), ("count", 2)]) (g := (gTup K 2 (gCons (gName 1) (gCons (gName 2) gNil)))) rfl sc_written.nd (pi_list (pv 0)) (blkOk_by (own := [("place", 1), ("count", 2)]) (N := ["heaps", "place", "count"]) (sc := defScope st_written) (by decide +kernel)) (fun _ _ _ _ _ => (pg_tup rfl (pgs_cons (pg_name (i := 1) sc_written.nd rfl (Or.inl rfl)) (pgs_cons (pg_name (i := 2) sc_written.nd rfl (Or.inl rfl)) pgs_nil)))) (fun _ _ _ _ _ => pts_nil) (fun _ _ _ _ _ => (pe_and (pe_cmpR op_lt (pe_callB call_abs (by rfl) T.m_abs (by decide +kernel) (pa_cons (pv 1) pa_nil)) (pe_glob (v := .int 1000000000000000000000000000000000000000000000000000000000000) rfl gM ⟨_, rfl⟩) (nomark _)) (pe_one (pe_cmpR op_lt (pv 2) (pe_glob (v := .int 1000000000000000000000000000000000000000000000000000000000000) rfl gM ⟨_, rfl⟩) (nomark _)))))) pa_nil))))
 (pss_one ps_never)
 pss_nil)
 (pss_cons (ps_if (pt_cmpR op_eq (pe_callB call_len_seq (by rfl) T.m_len (by decide +kernel) (pa_cons (pv 0) pa_nil)) pe_int (nomark _))
 (pss_one (ps_ret pe_str))
 pss_nil)
 (pss_one (ps_ret (pe_join pe_str (pe_lc (own := [("place", 1), ("count", 2)]) (g := (gTup K 2 (gCons (gName 1) (gCons (gName 2) gNil)))) rfl sc_written.nd (pi_list (pv 0)) (blkOk_by (own := [("place", 1), ("count", 2)]) (N := ["heaps", "place", "count"]) (sc := defScope st_written) (by decide +kernel)) (fun _ _ _ _ _ => (pg_tup rfl (pgs_cons (pg_name (i := 1) sc_written.nd rfl (Or.inl rfl)) (pgs_cons (pg_name (i := 2) sc_written.nd rfl (Or.inl rfl)) pgs_nil)))) (fun _ _ _ _ _ => pts_nil) (fun _ _ _ _ _ => (pe_op op_add_str (pe_op op_add_str (pe_callTy call_str_int (by rfl) T.m_str (by decide +kernel) (pa_cons (pv 1) pa_nil)) pe_str) (pe_callTy call_str_int (by rfl) T.m_str (by decide +kernel) (pa_cons (pv 2) pa_nil))))))))))), ?_⟩
    have hl := hb.len
    refine ⟨_, rfl, _, _, rfl, ha.dp, hb.all, by rw [List.length_map]; omega, fun H1 s1 => ?_⟩
    refine nx_mk ?_
    refine q_whenb (b := false) ?_ (fun z => nomatch z) (fun _ H2 s2 => ?_)
    · have e : (hs.map okW).all id = true := by
        rw [List.all_map]
        exact hok
      refine Evl.et_is (Evl.et_not (Evl.et_B (ev_allL (bs := hs.map okW) ?_))) (by rw [e]; rfl)
      rw [List.map_map]
      exact el_lcP0 (K := K) (V.bl ∘ okW) (evq_var rfl (ha.mono s1)) (by omega) (fun _ _ => rfl) fun x _ => Evl.ev_andV (Evl.ev_op (ev_abs (Evl.ev_var rfl)) Evl.ev_c Evl.rv_I0) fun _ => Evl.ev_op (Evl.ev_var rfl) Evl.ev_c Evl.rv_I0
    have s02 := s1.trans s2
    have ha2 := ha.mono s02
    refine q_when (c := (hs.length : Int) = 0) (Evl.et_test (Evl.ev_op (ev_lenQ (K := K) (evq_var rfl ha2)) Evl.ev_c rv_eqI)) (fun c H3 s3 => ?_) (fun c H3 s3 => ?_)
    · have e : wText hs = "-" := if_pos (List.length_eq_zero_iff.mp (by omega))
      rw [e] at q
      exact q H3 (s02.trans s3)
    · have e : wText hs = Txt.join " " (hs.map wPair) := if_neg fun z => c (by rw [z]; rfl)
      rw [e] at q
      refine ⟨⟨_, rfl⟩, ?_⟩
      refine el_lcP0 (K := K) (V.str ∘ wPair) (evq_var rfl (ha2.mono s3)) (by omega) (fun _ _ => rfl) (fun x mx => ?_) H3 (Same.refl _) _ fun p H4 np s4 ep => ?_
      · have w1 : Wd 200 x.1 := hb.w1 x mx
        have w2 : Wd 200 x.2 := hb.w2 x mx
        have n1 := num_len w1
        have n2 := num_len w2
        have e1 : (":" : Str).length = 1 := rfl
        exact Evl.ev_op (Evl.ev_op (ev_str (Evl.ev_var rfl) (log_wd w1)) Evl.ev_c (rv_addS (by omega))) (ev_str (Evl.ev_var rfl) (log_wd w2)) (rv_addS (by rw [str_len_app]; omega))
      · have sm := wSum hb
        rw [← List.map_map] at ep
        refine ⟨_, p, hs.map wPair, rfl, rfl, .inl (SqL.of ep), ?_, q H4 ((s02.trans s3).trans s4)⟩
        rw [List.length_map]
        have e1 : (" " : Str).length = 1 := rfl
        rw [e1]
        omega
end
end Wk
/-! text * int -/
namespace Wk
open PySem PySem.Spec PyProof.Rows L2 Spr
def repS (i : Str) (n : Nat) : Str := ⟨(List.replicate n i.cps).foldl (· ++ ·) #[]⟩
theorem fold_size (a : Array Nat) : ∀ (n : Nat) (b : Array Nat), ((List.replicate n a).foldl (· ++ ·) b).size = b.size + n * a.size
  | 0, b => by simp
  | n + 1, b => by
    rw [List.replicate_succ, List.foldl_cons, fold_size a n (b ++ a), Array.size_append, Nat.succ_mul]
    omega
theorem repS_len (i : Str) (n : Nat) : (repS i n).length = n * i.length := by
  show ((List.replicate n i.cps).foldl (· ++ ·) #[]).size = _
  rw [fold_size]
  simp
  rfl
section
variable {X : Cx}
theorem op_mulS : OpR X (binaryOp .Mult) (fun x y H Q => ∃ (i : Str) (k : Int), x = .str i ∧ y = .int k ∧ 2 ≤ k ∧ k ≤ 100000 ∧ i.length = 1 ∧ Q (.str (repS i k.toNat)) H) := by
  intro pins s σ H x y v u Q I rx ry h
  obtain ⟨i, k, rfl, rfl, h1, h2, hi, q⟩ := h
  obtain ⟨t, rfl⟩ := rx
  obtain ⟨t', rfl⟩ := ry
  have e1 : ((k == 1 || i.length == 0) = true) = False := by
    rw [hi]
    have : (k == 1) = false := by simpa using (show ¬ k = 1 by omega)
    rw [this]
    simp
  refine PySem.P.mul_str ?_ (fun _ _ => ?_) (fun _ _ => ?_) ?_
  · rw [decide_eq_false (by omega), decide_eq_false (by omega)]; rfl
  · rw [hi]
    have : (1 : Int) ≤ (2 ^ 63 - 1) / k := by
      refine Int.le_ediv_of_mul_le (by omega) ?_
      omega
    show ¬ (((1 : Nat) : Int) > (2 ^ 63 - 1) / k)
    omega
  · rw [hi]
    show decide (1 * k.toNat > sizeLine) = false
    refine decide_eq_false ?_
    rw [sizeLine_eq]
    omega
  · rw [if_neg (by omega), if_neg (by rw [e1]; exact id)]
    refine ⟨?_, ⟨.str (repS i k.toNat), H, I.tok _, ⟨_, rfl⟩, q⟩⟩
    have := repS_len i k.toNat
    rw [hi] at this
    show (repS i k.toNat).length ≤ sizeLine
    rw [this, sizeLine_eq]
    omega
end
end Wk
/-! words and texts, no program in sight -/
namespace Wk
open PySem PySem.Spec PyProof.Rows L2 Spr TL PySem.NumText
/-! ### words -/
def figsL (l : List Nat) : List Nat := if l.head? = some 45 then l.tail else l
def dig (c : Nat) : Bool := decide (48 ≤ c) && decide (c ≤ 57)
def badL (l : List Nat) : Bool := !(decide (1 ≤ (figsL l).length) && decide ((figsL l).length ≤ 60)) || (!(figsL l).all dig || (decide ((figsL l).head? = some 48) && !decide (l = [48])))
def valL (l : List Nat) : Int := if l.head? = some 45 then -((digitsVal l.tail : Nat) : Int) else ((digitsVal l : Nat) : Int)
theorem all_dig {l : List Nat} (h : l.all dig = true) : AllDigits l := fun c m => by
  have := List.all_eq_true.mp h c m
  unfold dig at this
  rw [Bool.and_eq_true, decide_eq_true_iff, decide_eq_true_iff] at this
  exact this
theorem back_dig : ∀ {l : List Nat}, AllDigits l → (l.map Char.ofNat).map Char.toNat = l
  | [], _ => rfl
  | c :: l, h => by
    rw [List.map_cons, List.map_cons, back_dig fun x m => h x (List.mem_cons_of_mem _ m)]
    have hc := h c List.mem_cons_self
    have e : ∀ c : Nat, c ≤ 57 → (Char.ofNat c).toNat = c := by decide
    rw [e c hc.2]
theorem num_back {l : List Nat} (h : AllDigits l) (hn : l ≠ []) (h0 : l.length = 1 ∨ l.head? ≠ some 48) : numL (digitsVal l) = l := by
  unfold numL
  rw [toDigits_digitsVal (l.length - 1) l (by have := List.length_pos_iff.mpr hn; omega) h ?_]
  · exact back_dig h
  · rcases h0 with h0 | h0
    · exact .inl (by omega)
    · cases l with
      | nil => exact absurd rfl hn
      | cons c r =>
        have hc := h c List.mem_cons_self
        refine .inr ⟨c, r, rfl, ?_⟩
        have : c ≠ 48 := fun e => h0 (by rw [e]; rfl)
        omega
theorem val_lt : ∀ (l : List Nat), AllDigits l → digitsVal l < 10 ^ l.length := by
  have key : ∀ (l : List Nat) (a : Nat), AllDigits l → l.foldl (fun acc c => acc * 10 + (c - 48)) a < (a + 1) * 10 ^ l.length := by
    intro l
    induction l with
    | nil => intro a _; show a < (a + 1) * 1; omega
    | cons c l ih =>
      intro a h
      have hc := h c List.mem_cons_self
      have := ih (a * 10 + (c - 48)) fun x m => h x (List.mem_cons_of_mem _ m)
      rw [List.foldl_cons, List.length_cons, Nat.pow_succ]
      refine Nat.lt_of_lt_of_le this ?_
      rw [Nat.mul_comm (10 ^ l.length) 10, ← Nat.mul_assoc]
      exact Nat.mul_le_mul_right _ (by omega)
  intro l h
  have := key l 0 h
  rw [Nat.zero_add, Nat.one_mul] at this
  exact this
structure Good (w : Str) : Prop where
  txt : intText? w = some (valL (tl w))
  back : Str.ofString (toString (valL (tl w))) = w
  lt : (valL (tl w)).natAbs < 10 ^ 60
  len : w.length ≤ 61
theorem good_of {w : Str} (h : badL (tl w) = false) : Good w := by
  unfold badL at h
  rw [Bool.or_eq_false_iff, Bool.or_eq_false_iff] at h
  obtain ⟨h1, h2, h3⟩ := h
  rw [Bool.not_eq_false', Bool.and_eq_true, decide_eq_true_iff, decide_eq_true_iff] at h1
  rw [Bool.not_eq_false'] at h2
  obtain ⟨l1, l2⟩ := h1
  have hd := all_dig h2
  have hl := len_tl w
  by_cases c : (tl w).head? = some 45
  · have ef : figsL (tl w) = (tl w).tail := if_pos c
    rw [ef] at l1 l2 hd h3
    have ev : valL (tl w) = -((digitsVal (tl w).tail : Nat) : Int) := if_pos c
    obtain ⟨r, er⟩ : ∃ r, tl w = 45 :: r := by
      cases e : tl w with
      | nil => rw [e] at c; cases c
      | cons x r => rw [e] at c; exact ⟨r, by rw [Option.some.inj c]⟩
    rw [er] at l1 l2 hd h3 ev hl
    have hr : r ≠ [] := fun z => by rw [z] at l1; exact absurd l1 (by decide)
    have h48 : r.head? ≠ some 48 := fun z => by
      rw [Bool.and_eq_false_iff] at h3
      rcases h3 with h3 | h3
      · rw [decide_eq_false_iff_not] at h3
        exact h3 z
      · rw [Bool.not_eq_false', decide_eq_true_iff] at h3
        cases h3
    have l2 : r.length ≤ 60 := l2
    have hd : AllDigits r := hd
    have hlen : w.length ≤ 61 := by
      rw [hl, List.length_cons]
      omega
    have pos : 0 < digitsVal r := by
      cases r with
      | nil => exact absurd rfl hr
      | cons x r =>
        have hx := hd x List.mem_cons_self
        have : x ≠ 48 := fun e => h48 (by rw [e]; rfl)
        exact digitsVal_pos (by omega)
    have lt : digitsVal r < 10 ^ 60 := Nat.lt_of_lt_of_le (val_lt r hd) (Nat.pow_le_pow_right (by decide) l2)
    rw [← er] at ev
    have ev : valL (tl w) = -((digitsVal r : Nat) : Int) := by rw [ev, er]; rfl
    refine ⟨?_, ?_, ?_, hlen⟩
    · rw [ev]
      exact intText_neg er hd hr (by omega)
    · rw [ev]
      refine ext_tl ?_
      have e0 : (0 : Int) - -((digitsVal r : Nat) : Int) = ((digitsVal r : Nat) : Int) := by omega
      rw [toString_neg (by omega), e0, tl_ofString, String.toList_append, List.map_append, ← tl_ofString (toString ((digitsVal r : Nat) : Int)), tl_num, num_back hd hr (.inr h48), er]
      rfl
    · rw [ev, Int.natAbs_neg]
      exact lt
  · have ef : figsL (tl w) = tl w := if_neg c
    rw [ef] at l1 l2 hd h3
    have ev : valL (tl w) = ((digitsVal (tl w) : Nat) : Int) := if_neg c
    have hr : tl w ≠ [] := fun z => by rw [z] at l1; exact absurd l1 (by decide)
    have h48 : (tl w).length = 1 ∨ (tl w).head? ≠ some 48 := by
      rw [Bool.and_eq_false_iff] at h3
      rcases h3 with h3 | h3
      · rw [decide_eq_false_iff_not] at h3
        exact .inr h3
      · rw [Bool.not_eq_false', decide_eq_true_iff] at h3
        exact .inl (by rw [h3]; rfl)
    have lt : digitsVal (tl w) < 10 ^ 60 := Nat.lt_of_lt_of_le (val_lt _ hd) (Nat.pow_le_pow_right (by decide) l2)
    refine ⟨?_, ?_, ?_, by rw [hl]; omega⟩
    · rw [ev]
      exact intText_digits hd hr (by rw [hl]; omega)
    · rw [ev]
      refine ext_tl ?_
      rw [tl_num, num_back hd hr h48]
    · rw [ev]
      exact lt
/-! ### the tests, as the programs write them -/
theorem tl_cut1 (w : Str) : tl (cutS w (some 1) none) = (tl w).tail := by
  have hl := len_tl w
  show (((tl w).drop (HT.sIx w.length 0 (some 1))).take (HT.sIx w.length w.length none - HT.sIx w.length 0 (some 1))) = _
  have e1 : HT.sIx w.length 0 (some 1) = min 1 w.length := HT.sIx_nat w.length 0 1
  have e2 : HT.sIx w.length w.length none = w.length := rfl
  rw [e1, e2, hl]
  cases tl w with
  | nil => rfl
  | cons x r =>
    have : min 1 (x :: r).length = 1 := by rw [List.length_cons]; omega
    rw [this]
    show (r.take _) = r
    rw [List.length_cons, Nat.add_sub_cancel, List.take_length]
theorem tl_cut0 (w : Str) : tl (cutS w none (some 1)) = (tl w).take 1 := by
  have hl := len_tl w
  show (((tl w).drop (HT.sIx w.length 0 none)).take (HT.sIx w.length w.length (some 1) - HT.sIx w.length 0 none)) = _
  have e1 : HT.sIx w.length w.length (some 1) = min 1 w.length := HT.sIx_nat w.length w.length 1
  have e2 : HT.sIx w.length 0 none = 0 := rfl
  rw [e1, e2, List.drop_zero, Nat.sub_zero, hl]
  cases tl w with
  | nil => rfl
  | cons x r =>
    have : min 1 (x :: r).length = 1 := by rw [List.length_cons]; omega
    rw [this]
theorem head_cut (w : Str) : decide (cutS w none (some 1) = "-") = decide ((tl w).head? = some 45) := by
  have e : cutS w none (some 1) = "-" ↔ (tl w).head? = some 45 := by
    constructor
    · intro h
      have := congrArg tl h
      rw [tl_cut0] at this
      have e2 : tl ("-" : Str) = [45] := rfl
      rw [e2] at this
      cases q : tl w with
      | nil => rw [q] at this; cases this
      | cons x r => rw [q] at this; injection this with h1 h2; rw [h1]; rfl
    · intro h
      refine ext_tl ?_
      rw [tl_cut0]
      cases q : tl w with
      | nil => rw [q] at h; cases h
      | cons x r => rw [q] at h; rw [Option.some.inj h]; rfl
  by_cases c : (tl w).head? = some 45
  · rw [decide_eq_true c, decide_eq_true (e.mpr c)]
  · rw [decide_eq_false c, decide_eq_false fun z => c (e.mp z)]
end Wk
/-! texts, no program in sight -/
namespace Wk
open PySem PySem.Spec PyProof.Rows L2 Spr TL PySem.NumText
/-! ### startswith, strip -/
theorem starts_minus (w : Str) : Txt.startswith w "-" = decide ((tl w).head? = some 45) := by
  unfold Txt.startswith
  rw [StrLaws.subAt_eq]
  have hl := len_tl w
  have e1 : ("-" : Str).length = 1 := rfl
  have e2 : ("-" : Str).cps.toList = [45] := rfl
  rw [e1, e2, hl]
  show (decide (0 + 1 ≤ (tl w).length) && (((tl w).drop 0).take 1 == [45])) = _
  cases tl w with
  | nil => rfl
  | cons x r =>
    have : (decide (0 + 1 ≤ (x :: r).length)) = true := decide_eq_true (by rw [List.length_cons]; omega)
    rw [this, Bool.true_and]
    show ([x] == [45]) = decide (some x = some 45)
    by_cases c : x = 45
    · subst c; rfl
    · rw [decide_eq_false (fun z => c (Option.some.inj z))]
      simpa using c
theorem strip_zero (g : Nat → Bool) (x : Str) : (Txt.stripBy g true true x).length = 0 ↔ ∀ k, k < x.length → g (x.cps.getD k 0) = true := by
  obtain ⟨a0, a1, a2⟩ := lo_facts g x
  obtain ⟨b0, b1, b2, b3⟩ := hi_facts g x _ a0
  rw [stripBy_eq]
  generalize stripLo g true x = lo at *
  generalize stripHi g true x lo = hi at *
  have e : (Builtin.Str.strSub x lo hi).length = hi - lo := by
    rw [len_tl, tl_strSub, List.length_take, List.length_drop, ← len_tl]
    omega
  rw [e]
  constructor
  · intro h k hk
    by_cases c : k < lo
    · exact a1 k c
    · exact b2 k (by omega) hk
  · intro h
    rcases a2 with a2 | a2
    · omega
    · by_cases c : lo < x.length
      · rw [h lo c] at a2; cases a2
      · omega
theorem fig_dig (c : Nat) : ("0123456789" : Str).cps.contains c = dig c := by
  by_cases h : c < 58
  · exact (by decide +kernel : ∀ c, c < 58 → ("0123456789" : Str).cps.contains c = dig c) c h
  · have e : dig c = false := by
      unfold dig
      rw [Bool.and_eq_false_iff, decide_eq_false_iff_not, decide_eq_false_iff_not]
      omega
    rw [e, Bool.eq_false_iff]
    intro z
    have m : c ∈ ("0123456789" : Str).cps := by simpa using z
    have : ∀ c ∈ ("0123456789" : Str).cps.toList, c < 58 := by decide +kernel
    exact h (this c (Array.mem_toList_iff.mpr m))
theorem strip_fig (x : Str) : decide (Txt.stripChars x "0123456789" = "") = (tl x).all dig := by
  have h : Txt.stripChars x "0123456789" = "" ↔ (tl x).all dig = true := by
    have e1 : Txt.stripChars x "0123456789" = "" ↔ (Txt.stripBy ("0123456789" : Str).cps.contains true true x).length = 0 := by
      constructor
      · intro z
        show (Txt.stripChars x "0123456789").length = 0
        rw [z]
        rfl
      · intro z
        refine ext_tl ?_
        have := (len0_tl _).mp z
        exact this
    rw [e1, strip_zero, List.all_eq_true]
    constructor
    · intro z c m
      obtain ⟨k, hk, e⟩ := List.mem_iff_getElem.mp m
      have := z k (by rw [len_tl]; exact hk)
      rw [← getD_list, fig_dig] at this
      rw [← e]
      have e3 : (x.cps.toList).getD k 0 = (tl x)[k] := by
        rw [List.getD_eq_getElem?_getD, List.getElem?_eq_getElem hk]
        rfl
      rw [e3] at this
      exact this
    · intro z k hk
      rw [len_tl] at hk
      rw [← getD_list, fig_dig]
      have e3 : (x.cps.toList).getD k 0 = (tl x)[k] := by
        rw [List.getD_eq_getElem?_getD, List.getElem?_eq_getElem hk]
        rfl
      rw [e3]
      exact z _ (List.getElem_mem hk)
  by_cases c : (tl x).all dig = true
  · rw [c, decide_eq_true (h.mpr c)]
  · rw [decide_eq_false fun z => c (h.mp z)]
    exact (Bool.eq_false_iff.mpr c).symm
/-! ### words -/
def valN (w : Str) : Int := valL (tl w)
def okN (w : Str) : Bool := !badL (tl w)
def plW (w : Str) : Str := (Txt.partition w ":").1
def ctW (w : Str) : Str := (Txt.partition w ":").2.2
def pairW (w : Str) : I2 := (valN (plW w), valN (ctW w))
def nbW (w : Str) : Bool := okN (plW w) && okN (ctW w)
def okWd (w : Str) : Bool := nbW w && decide (0 ≤ (pairW w).2)
def wordsT (t : Str) : List Str := if t = "-" then [] else Txt.split t " "
def goodT (t : Str) : Bool := (wordsT t).all okWd
def due (t : Str) : List I2 := (wordsT t).map pairW
structure Tx (t : Str) : Prop where
  len : t.length ≤ 50000
  spc : (tl t).count 32 ≤ 900
theorem par_back : ∀ (l acc a b : List Nat), par [58] acc l = some (a, b) → acc ++ l = a ++ (58 :: b)
  | [], acc, a, b, h => by cases h
  | c :: r, acc, a, b, h => by
    by_cases e : c = 58
    · subst e
      have hp : pre [58] (58 :: r) = true := pre_self [58] r
      rw [par_hit hp] at h
      injection h with h
      injection h with h1 h2
      rw [← h1, ← h2]
      rfl
    · rw [par_miss (pre_of_head _ _ e)] at h
      have := par_back r (acc ++ [c]) a b h
      rw [← this, List.append_assoc]
      rfl
theorem part_cases (w : Str) : (Txt.partition w ":" = (w, Str.empty, Str.empty)) ∨ ∃ a b : Str, Txt.partition w ":" = (a, (":" : Str), b) ∧ w = a ++ ":" ++ b := by
  have hp := partition_par w ":" (by decide)
  have e : tl (":" : Str) = [58] := rfl
  rw [e] at hp
  cases q : par [58] [] (tl w) with
  | none => rw [q] at hp; exact .inl hp
  | some ab =>
    obtain ⟨a, b⟩ := ab
    rw [q] at hp
    refine .inr ⟨_, _, hp, ext_tl ?_⟩
    have := par_back _ _ _ _ q
    rw [List.nil_append] at this
    rw [tl_append, tl_append, this, List.append_assoc]
    rfl
theorem part_len (w : Str) : (plW w).length ≤ w.length ∧ (ctW w).length ≤ w.length := by
  unfold plW ctW
  rcases part_cases w with e | ⟨a, b, e, ew⟩
  · rw [e]; exact ⟨Nat.le_refl _, Nat.zero_le _⟩
  · have : w.length = a.length + (":" : Str).length + b.length := by rw [ew, str_len_app, str_len_app]
    rw [e]
    dsimp only
    omega
theorem ok_empty : okN Str.empty = false := by decide +kernel
theorem wPair_back {w : Str} (h : nbW w = true) : wPair (pairW w) = w := by
  unfold nbW at h
  rw [Bool.and_eq_true] at h
  obtain ⟨h1, h2⟩ := h
  unfold wPair pairW
  rcases part_cases w with e | ⟨a, b, e, ew⟩
  · unfold ctW at h2
    rw [e] at h2
    have := ok_empty
    rw [this] at h2
    cases h2
  · have ea : plW w = a := by unfold plW; rw [e]
    have eb : ctW w = b := by unfold ctW; rw [e]
    rw [ea] at h1
    rw [eb] at h2
    unfold okN at h1 h2
    rw [Bool.not_eq_true'] at h1 h2
    rw [ea, eb]
    dsimp only
    have g1 : Str.ofString (toString (valN a)) = a := (good_of h1).back
    have g2 : Str.ofString (toString (valN b)) = b := (good_of h2).back
    rw [g1, g2]
    exact ew.symm
theorem spl_len : ∀ (l acc : List Nat), (spl [32] 0 acc l).length = l.count 32 + 1
  | [], acc => by rw [spl_nil]; rfl
  | c :: r, acc => by
    by_cases e : c = 32
    · subst e
      have hp : pre [32] (32 :: r) = true := pre_self [32] r
      rw [spl_hit hp, List.length_cons]
      have : spl [32] ([32].length - 1) [] r = spl [32] 0 [] r := rfl
      rw [this, spl_len r, List.count_cons_self]
    · rw [spl_miss (pre_of_head _ _ e), spl_len r, List.count_cons_of_ne e]
theorem split_tl (t : Str) : (Txt.split t " ").map tl = spl [32] 0 [] (tl t) := split_spl t " " (by decide) (kind_ok (by decide +kernel))
theorem split_len (t : Str) : (Txt.split t " ").length = (tl t).count 32 + 1 := by
  have := congrArg List.length (split_tl t)
  rw [List.length_map, spl_len] at this
  exact this
theorem words_len {t : Str} (h : Tx t) : (wordsT t).length ≤ 901 := by
  unfold wordsT
  split
  · exact Nat.zero_le _
  · rw [split_len]
    have := h.spc
    omega
theorem word_len {t w : Str} (h : Tx t) (m : w ∈ wordsT t) : w.length ≤ 50000 := by
  unfold wordsT at m
  split at m
  · cases m
  · have := join_mem_le " " _ w m
    rw [StrLaws.join_split] at this
    exact Nat.le_trans this h.len
theorem good_pos {t : Str} (h : goodT t = true) : ∀ w ∈ wordsT t, nbW w = true ∧ 0 ≤ (pairW w).2 := fun w m => by
  have := List.all_eq_true.mp h w m
  unfold okWd at this
  rw [Bool.and_eq_true, decide_eq_true_iff] at this
  exact this
theorem wText_back {t : Str} (h : goodT t = true) : wText (due t) = t := by
  have hw := good_pos h
  unfold due
  unfold wordsT at hw ⊢
  by_cases e : t = "-"
  · rw [if_pos e, e]
    rfl
  · rw [if_neg e] at hw ⊢
    have hne : Txt.split t " " ≠ [] := fun z => by
      have := split_len t
      rw [z] at this
      cases this
    have hn : (Txt.split t " ").map pairW ≠ [] := fun z => hne (List.map_eq_nil_iff.mp z)
    unfold wText
    rw [if_neg hn, List.map_map, join_eq]
    have em : (Txt.split t " ").map (wPair ∘ pairW) = Txt.split t " " := by
      have : (Txt.split t " ").map (wPair ∘ pairW) = (Txt.split t " ").map id := List.map_congr_left fun w m => wPair_back (hw w m).1
      rw [this, List.map_id]
    rw [em, StrLaws.join_split]
theorem nb_good {w : Str} (h : nbW w = true) : Good (plW w) ∧ Good (ctW w) := by
  unfold nbW okN at h
  rw [Bool.and_eq_true, Bool.not_eq_true', Bool.not_eq_true'] at h
  exact ⟨good_of h.1, good_of h.2⟩
theorem ten60 : 10 ^ 60 < 2 ^ 200 := by decide +kernel
theorem pair_wd {w : Str} (h : nbW w = true) : Wd 200 (pairW w).1 ∧ Wd 200 (pairW w).2 :=
  ⟨Nat.lt_trans (nb_good h).1.lt ten60, Nat.lt_trans (nb_good h).2.lt ten60⟩
theorem most_is : most = ((10 ^ 60 : Nat) : Int) := by decide +kernel
theorem pair_ok {w : Str} (h : nbW w = true) : okW (pairW w) = true := by
  obtain ⟨g1, g2⟩ := nb_good h
  have h1 : (pairW w).1.natAbs < 10 ^ 60 := g1.lt
  have h2 : (pairW w).2.natAbs < 10 ^ 60 := g2.lt
  unfold okW absI
  rw [most_is, Bool.and_eq_true, decide_eq_true_iff, decide_eq_true_iff]
  generalize 10 ^ 60 = m at *
  constructor
  · split <;> omega
  · omega
theorem due_hb {t : Str} (h : Tx t) (g : goodT t = true) : HB (due t) := by
  have hw := good_pos g
  refine ⟨?_, fun x m => ?_, fun x m => ?_, fun x m => ?_⟩
  · unfold due
    rw [List.length_map]
    have := words_len h
    omega
  · obtain ⟨w, mw, rfl⟩ := List.mem_map.mp m
    exact (hw w mw).2
  · obtain ⟨w, mw, rfl⟩ := List.mem_map.mp m
    exact (pair_wd (hw w mw).1).1
  · obtain ⟨w, mw, rfl⟩ := List.mem_map.mp m
    exact (pair_wd (hw w mw).1).2
theorem due_ok {t : Str} (g : goodT t = true) : (due t).all okW = true := by
  rw [List.all_eq_true]
  intro x m
  obtain ⟨w, mw, rfl⟩ := List.mem_map.mp m
  exact pair_ok (good_pos g w mw).1
/-! ### which texts are Tx -/
theorem Tx.sm {a b : Str} {n m k l : Nat} (h1 : a.length ≤ n) (h2 : b.length ≤ m) (c1 : (tl a).count 32 ≤ k) (c2 : (tl b).count 32 ≤ l) (e1 : n + m ≤ 50000) (e2 : k + l ≤ 900) : Tx (a ++ b) := by
  refine ⟨by rw [str_len_app]; omega, ?_⟩
  rw [tl_append, List.count_append]
  omega
theorem num_signs (i : Int) : tl (Str.ofString (toString i)) = if i < 0 then 45 :: numL i.natAbs else numL i.natAbs := by
  by_cases h : i < 0
  · rw [if_pos h, toString_neg h, tl_ofString, String.toList_append, List.map_append, ← tl_ofString (toString (0 - i))]
    have e : 0 - i = ((i.natAbs : Nat) : Int) := by omega
    rw [e, tl_num]
    rfl
  · rw [if_neg h]
    have e : i = ((i.natAbs : Nat) : Int) := by omega
    conv => lhs; rw [e]
    rw [tl_num]
theorem num_free {i : Int} {s : Nat} (h : s < 45 ∨ 57 < s) : s ∉ tl (Str.ofString (toString i)) := by
  rw [num_signs]
  have := numL_free (n := i.natAbs) (s := s) (by omega)
  split
  · intro m
    rcases List.mem_cons.mp m with m | m
    · omega
    · exact this m
  · exact this
theorem num_len41 {i : Int} (h : i.natAbs < 10 ^ 40) : (Str.ofString (toString i)).length ≤ 41 := by
  rw [len_tl, num_signs]
  have := numL_len (n := i.natAbs) (k := 40) (by decide) h
  split
  · rw [List.length_cons]; omega
  · omega
theorem wPair_free (h : I2) : 32 ∉ tl (wPair h) := by
  unfold wPair
  rw [tl_append, tl_append]
  intro m
  rcases List.mem_append.mp m with m | m
  · rcases List.mem_append.mp m with m | m
    · exact num_free (by omega) m
    · revert m; decide
  · exact num_free (by omega) m
theorem wPair_len83 {h : I2} (h1 : h.1.natAbs < 10 ^ 40) (h2 : h.2.natAbs < 10 ^ 40) : (wPair h).length ≤ 83 := by
  unfold wPair
  rw [str_len_app, str_len_app]
  have a := num_len41 h1
  have b := num_len41 h2
  have e : (":" : Str).length = 1 := rfl
  omega
structure Ty (t : Str) : Prop where
  len : t.length ≤ 6000
  spc : (tl t).count 32 ≤ 100
theorem Ty.tx {t : Str} (h : Ty t) : Tx t := ⟨by have := h.len; omega, by have := h.spc; omega⟩
theorem sum_le : ∀ (l : List Nat) (b : Nat), (∀ x ∈ l, x ≤ b) → l.sum ≤ l.length * b
  | [], _, _ => Nat.zero_le _
  | x :: l, b, h => by
    have := sum_le l b fun y m => h y (List.mem_cons_of_mem _ m)
    have h1 := h x List.mem_cons_self
    rw [List.sum_cons, List.length_cons, Nat.succ_mul]
    omega
theorem wText_ty {hs : List I2} (h : HX hs) : Ty (wText hs) := by
  by_cases e : hs = []
  · subst e
    exact ⟨by decide, by decide⟩
  · have hn : hs.map wPair ≠ [] := fun z => e (List.map_eq_nil_iff.mp z)
    have hl := h.len
    unfold wText
    rw [if_neg e]
    constructor
    · rw [join_eq]
      refine Nat.le_trans (StrLaws.join_length_le " " _) ?_
      have e1 : (" " : Str).length = 1 := rfl
      have : ((hs.map wPair).map (·.length)).sum ≤ ((hs.map wPair).map (·.length)).length * 83 := sum_le _ _ fun x m => by
        obtain ⟨y, my, rfl⟩ := List.mem_map.mp m
        obtain ⟨z, mz, rfl⟩ := List.mem_map.mp my
        have p := h.pos z mz
        have q := h.w2 z mz
        refine wPair_len83 (h.w1 z mz) ?_
        have e40 : (10 : Int) ^ 40 = ((10 ^ 40 : Nat) : Int) := by decide +kernel
        rw [e40] at q
        generalize 10 ^ 40 = T at *
        omega
      rw [List.length_map, List.length_map] at this
      rw [List.length_map, e1]
      omega
    · have := split_join (y := " ") (s := 32) (S := []) rfl (by decide +kernel) hn fun p m => by
        obtain ⟨z, mz, rfl⟩ := List.mem_map.mp m
        exact wPair_free z
      have l := split_len (Txt.join " " (hs.map wPair))
      rw [this, List.length_map] at l
      omega
theorem tl_cutTo (w : Str) (n : Nat) : tl (cutS w none (some (n : Int))) = (tl w).take n := by
  have hl := len_tl w
  show (((tl w).drop (HT.sIx w.length 0 none)).take (HT.sIx w.length w.length (some (n : Int)) - HT.sIx w.length 0 none)) = _
  have e1 : HT.sIx w.length w.length (some (n : Int)) = min n w.length := HT.sIx_nat w.length w.length n
  have e2 : HT.sIx w.length 0 none = 0 := rfl
  rw [e1, e2, List.drop_zero, Nat.sub_zero, hl]
  by_cases c : n ≤ (tl w).length
  · rw [Nat.min_eq_left c]
  · rw [Nat.min_eq_right (by omega), List.take_length, List.take_of_length_le (by omega)]
theorem tl_cutFrom (w : Str) (n : Nat) : tl (cutS w (some (n : Int)) none) = (tl w).drop n := by
  have hl := len_tl w
  show (((tl w).drop (HT.sIx w.length 0 (some (n : Int)))).take (HT.sIx w.length w.length none - HT.sIx w.length 0 (some (n : Int)))) = _
  have e1 : HT.sIx w.length 0 (some (n : Int)) = min n w.length := HT.sIx_nat w.length 0 n
  have e2 : HT.sIx w.length w.length none = w.length := rfl
  rw [e1, e2, hl]
  by_cases c : n ≤ (tl w).length
  · rw [Nat.min_eq_left c]
    exact List.take_of_length_le (by rw [List.length_drop]; exact Nat.le_refl _)
  · rw [Nat.min_eq_right (by omega), Nat.sub_self, List.take_zero, List.drop_of_length_le (by omega)]
/-- one sign put in, left out or set in its place -/
theorem cut_tx {t s : Str} (h : Ty t) (hs : s.length ≤ 1) (a d : Nat) : Tx (cutS t none (some (a : Int)) ++ s ++ cutS t (some ((a + d : Nat) : Int)) none) := by
  have l1 := cutS_length t none (some (a : Int))
  have l2 := cutS_length t (some ((a + d : Nat) : Int)) none
  have hl := h.len
  have hc := h.spc
  refine ⟨by rw [str_len_app, str_len_app]; omega, ?_⟩
  rw [tl_append, tl_append, List.count_append, List.count_append, tl_cutTo, tl_cutFrom]
  have c1 : ((tl t).take a).count 32 ≤ (tl t).count 32 := (List.take_sublist _ _).count_le _
  have c2 : ((tl t).drop (a + d)).count 32 ≤ (tl t).count 32 := (List.drop_sublist _ _).count_le _
  have c3 : (tl s).count 32 ≤ (tl s).length := List.count_le_length
  rw [← len_tl] at c3
  omega
end Wk
/-! any(list) while an exception is handled whose context is None, or an exception whose context is None -/
namespace Wk
open PySem PySem.Spec PyProof.Rows L2
/-- the handled exception's object, told as far as unchaining goes -/
def Cold (x1 : Addr) (h : Heap) : Prop := ∃ (o : Obj) (vs : Array Value), h.get? x1 = some o ∧ o.data = .fields vs ∧ (vs[2]? = some .none ∨ ∃ (x2 : Addr) (o2 : Obj) (us : Array Value), x2 ≠ x1 ∧ vs[2]? = some (.ref x2) ∧ h.get? x2 = some o2 ∧ o2.data = .fields us ∧ us[2]? = some .none)
theorem Cold.lt {x1 : Addr} {h : Heap} (c : Cold x1 h) : x1 < h.objs.size := by
  obtain ⟨o, vs, e, _⟩ := c
  exact Heap.lt_size e
theorem Cold.keep {x1 : Addr} {h h' : Heap} (c : Cold x1 h) (k : ∀ b o, (∃ vs, o.data = .fields vs ∧ vs.size > 2) → h.get? b = some o → h'.get? b = some o) : Cold x1 h' := by
  obtain ⟨o, vs, e, d, r⟩ := c
  have sz : ∀ {us : Array Value} {v : Value}, us[2]? = some v → us.size > 2 := fun z => (Array.getElem?_eq_some_iff.mp z).1
  rcases r with r | ⟨x2, o2, us, n, c1, e2, d2, c2⟩
  · exact ⟨o, vs, k _ _ ⟨vs, d, sz r⟩ e, d, .inl r⟩
  · exact ⟨o, vs, k _ _ ⟨vs, d, sz c1⟩ e, d, .inr ⟨x2, o2, us, n, c1, k _ _ ⟨us, d2, sz c2⟩ e2, d2, c2⟩⟩
section
variable {prog : Program} {w : World} {A : Around} {E : Value → Shared → Prop} {s : Shared}
theorem plain_unchain : plainId "proto.unchain" = true := by decide +kernel
theorem vref_ne {a b : Addr} (h : a ≠ b) : ¬ (Value.ref a == Value.ref b) = true := by simpa using h
theorem vref_nn (a : Addr) : ¬ (Value.ref a == Value.none) = true := Bool.false_ne_true
/-- unchaining a new exception at a from x1; h0 is the state ahead of it -/
theorem cold_unchain {x1 a : Addr} {h0 : Heap} {Q : Value → Shared → Prop} (c : Cold x1 h0) (k : ∀ b o, h0.get? b = some o → s.heap.get? b = some o) (na : h0.get? a = none) (q : Q .none s) :
    wpAny (model prog w) A (holding [Value.ref a] (runValue (.builtin "proto.unchain" ⟨[.ref a, .ref x1, .ref x1, .bool false], []⟩))) Q E s := by
  obtain ⟨o, vs, e, d, r⟩ := c
  refine wpAny_holding (wpAny_runValue (codeAny_builtin HotX.entry_unchain ?_))
  rcases r with r | ⟨x2, o2, us, n, c1, e2, d2, c2⟩
  · refine wpAny_bind (m := field (.ref x1) 2) (wpAny_field (k _ _ e) d r ?_)
    rw [if_pos (beq_self_eq_true _)]
    first
      | exact wpAny_pure q
      | exact wpAny_bind (wpAny_pure (wpAny_pure q))
  · refine wpAny_bind (m := field (.ref x1) 2) (wpAny_field (k _ _ e) d c1 ?_)
    have n2 : x2 ≠ a := fun z => by rw [z, na] at e2; cases e2
    rw [if_neg (vref_nn x2), if_neg (vref_ne n2), if_neg (vref_ne n)]
    refine wpAny_bind (m := pure (Value.ref x1)) (wpAny_pure (wpAny_pure ⟨plainId_quiet plain_unchain _, codeAny_builtin HotX.entry_unchain ?_⟩))
    refine wpAny_bind (m := field (.ref x2) 2) (wpAny_field (k _ _ e2) d2 c2 ?_)
    rw [if_pos (beq_self_eq_true _)]
    first
      | exact wpAny_pure q
      | exact wpAny_bind (wpAny_pure (wpAny_pure q))
theorem cold_raise {α : Type} {x1 a : Addr} {h0 : Heap} {oe : Obj} {vs : Array Value} {Q : α → Shared → Prop} (hh : A.handled = some (.ref x1)) (c : Cold x1 h0) (k : ∀ b o, h0.get? b = some o → s.heap.get? b = some o) (na : h0.get? a = none)
    (ha : s.heap.get? a = some oe) (da : oe.data = .fields vs) (hi : 2 < vs.size) (q : E (.ref a) { s with heap := s.heap.update a (Obj.mapFields (·.setIfInBounds 2 (.ref x1))) }) : wpAny (model prog w) A (raiseNew (.ref a) : Sem α) Q E s := by
  have hb : (Value.ref x1 != Value.ref a) = true := HotX.ref_bne fun z => by
    obtain ⟨o, _, e, _⟩ := c
    rw [z, na] at e
    cases e
  unfold raiseNew
  refine wpAny_bind (wpAny_handled ?_)
  rw [hh]
  dsimp only
  rw [if_pos hb]
  first
    | exact wpAny_bind (wpAny_bind (cold_unchain c k na (HotX.chained ha da hi (wpAny_throw q))))
    | exact wpAny_bind (cold_unchain c k na (wpAny_bind (HotX.chained ha da hi (wpAny_throw q))))
    | exact wpAny_bind (cold_unchain c k na (HotX.chained ha da hi (wpAny_throw q)))
/-- a list's iterator at its end -/
theorem cold_list_end {x1 it l : Addr} {i : Nat} {items : Array Value} {Q : Option Value → Shared → Prop} (hh : A.handled = some (.ref x1)) (c : Cold x1 s.heap)
    (hit : s.heap.IsListIter it l i) (hl : s.heap.IsList l items) (hx : items[i]? = none) (hQ : ∀ h', Heap.ExtBut it s.heap h' → Q none { s with heap := h' }) : wpAny (model prog w) A (pyNext (.ref it)) Q E s := by
  obtain ⟨oi, gi, ki, di⟩ := id hit
  obtain ⟨ol, gl, _, m, dl⟩ := hl
  unfold pyNext
  refine wpAny_bind (wpAny_attempt (wpAny_callSpecial?_slot (name := ("__next__" : Str)) hit.typeIs slot_listiter_next (wpAny_call_entry slot_listiter_next hit.typeIs entry_listiter_next ?_ (args_listiter_next _))))
  refine wpAny_bind (m := field (.ref it) 0) (wpAny_field gi di (x := .ref l) rfl ?_)
  rw [if_neg (vref_nn l)]
  refine wpAny_bind (m := field (.ref it) 1) (wpAny_field gi di (x := .int i 0) rfl ?_)
  refine wpAny_bind (m := seqItems? (.ref l)) (wpAny_seqItems gl dl ?_)
  simp only [Int.toNat_natCast, hx]
  refine wpAny_bind (wpAny_rule (wpAny_bind (wpAny_setField gi di (by simp) ?_)))
  have c1 : Cold x1 (s.heap.update it (Obj.mapFields (·.setIfInBounds 0 .none))) := c.keep fun b o ⟨vs, d, z⟩ e => by
    rw [Heap.get?_update_other _ _ fun q => ?_]
    · exact e
    · rw [← q, gi] at e
      cases e
      rw [di] at d
      cases d
      exact absurd (show 2 > 2 from z) (by decide)
  have eb := (Heap.SameBut.update (h := s.heap) (a := it) (f := Obj.mapFields (·.setIfInBounds 0 .none))).extBut
  generalize s.heap.update it (Obj.mapFields (·.setIfInBounds 0 .none)) = h1 at *
  refine wpAny_bind (m := newExc (.type "StopIteration") []) ?_
  simp only [newExc, newTuple]
  refine wpAny_bind (wpAny_newObj_type (wpAny_bind (m := firstArgMember _ _) (wpAny_of_eq (a := Value.none) (by first | rfl | (simp only [firstArgMember]; rfl)) (wpAny_newObj_type ?_ (by size_fits)))) (by size_fits))
  refine cold_raise (h0 := h1) hh c1 (fun b o e => Heap.get?_push_of_some _ (Heap.get?_push_of_some _ e)) ?_ (Heap.get?_push_size _ rfl) rfl (by first | (simp; done) | (simp; omega)) ?_
  · cases e : h1.get? _ with
    | none => rfl
    | some o => exact absurd (Heap.lt_size (Heap.get?_push_of_some _ e)) (Nat.lt_irrefl _)
  · refine wpAny_bind (wpAny_isInstance (T := "StopIteration") (b := true) ⟨_, Heap.get?_update_self _ (Heap.get?_push_size _ rfl) rfl, rfl⟩ isSubtype_stop ?_)
    refine wpAny_pure (hQ _ fun b o nb e => ?_)
    have e1 := eb b o nb e
    rw [Heap.get?_update_other _ _ fun q => absurd (Heap.lt_size (Heap.get?_push_of_some _ e1)) (by rw [← q]; exact Nat.lt_irrefl _)]
    exact Heap.get?_push_of_some _ (Heap.get?_push_of_some _ e1)
/-- the chain among known objects -/
def Chn (x1 : Addr) (L : List (Addr × Obj)) : Prop := ∃ (o : Obj) (vs : Array Value), (x1, o) ∈ L ∧ o.data = .fields vs ∧ (vs[2]? = some .none ∨ ∃ (x2 : Addr) (o2 : Obj) (us : Array Value), x2 ≠ x1 ∧ vs[2]? = some (.ref x2) ∧ (x2, o2) ∈ L ∧ o2.data = .fields us ∧ us[2]? = some .none)
def Stand (L : List (Addr × Obj)) (h : Heap) : Prop := ∀ p ∈ L, h.get? p.1 = some p.2
theorem Chn.cold {x1 : Addr} {L : List (Addr × Obj)} {h : Heap} (c : Chn x1 L) (k : Stand L h) : Cold x1 h := by
  obtain ⟨o, vs, m, d, r⟩ := c
  rcases r with r | ⟨x2, o2, us, n, c1, m2, d2, c2⟩
  · exact ⟨o, vs, k _ m, d, .inl r⟩
  · exact ⟨o, vs, k _ m, d, .inr ⟨x2, o2, us, n, c1, k _ m2, d2, c2⟩⟩
/-- walking a list there -/
theorem cold_walks {x1 it ax : Addr} {L : List (Addr × Obj)} (hh : A.handled = some (.ref x1)) (c : Chn x1 L) (hne : ax ≠ it) (hL : ∀ p ∈ L, p.1 ≠ it) (items : Array Value) :
    Walks prog w A it (it :: ax :: L.map (·.1)) [it] items.size (fun i v => items[i]? = some v) (fun i h => h.IsListIter it ax i ∧ h.IsList ax items ∧ Stand L h) := by
  refine ⟨fun b m => ?_, fun i h h' st k => ⟨st.1.at fun o e => k it List.mem_cons_self o e, st.2.1.at fun o e => k ax (List.mem_cons_of_mem _ List.mem_cons_self) o e, fun p m => k p.1 (List.mem_cons_of_mem _ (List.mem_cons_of_mem _ (List.mem_map_of_mem m))) _ (st.2.2 p m)⟩,
    fun i s Q E hi st q => ?_, fun s Q E st q => ?_, fun i s Q E st q => wpAny_pyIter_listiter st.1 q⟩
  · rw [List.mem_singleton.mp m]
    exact List.mem_cons_self
  · refine wpAny_pyNext_list_item st.1 st.2.1 (x := items[i]) (Array.getElem?_eq_getElem hi) fun h1 it1 sb => ?_
    exact q _ h1 s.toks (Array.getElem?_eq_getElem hi) ⟨it1, st.2.1.extBut sb.extBut hne, fun p m => sb.extBut p.1 p.2 (hL p m) (st.2.2 p m)⟩ fun b o nb e => sb.extBut b o (fun z => nb (z ▸ List.mem_cons_self)) e
  · exact cold_list_end hh (c.cold st.2.2) st.1 st.2.1 (by simp) fun h1 eb => q h1 s.toks fun b o nb e => eb b o (fun z => nb (z ▸ List.mem_cons_self)) e
end
/-- the handled exception is among the context's pins, with its chain -/
def HotK (X : Cx) : Prop := ∃ x1, X.A.handled = some (.ref x1) ∧ Chn x1 X.pn
section
variable {X : Cx}
theorem cr_anyK (hc : HotK X) : CallR X (.builtin "any") (rAny X.K) := by
  intro pins s σ H vs us Q I r h
  obtain ⟨a, bs, rfl, hs, q⟩ := h
  obtain ⟨x1, hh, ch⟩ := hc
  obtain ⟨its, rv, hl, _⟩ := I.list hs
  have hb := rv.bls
  have st0 : ∀ p ∈ X.pn, s.heap.get? p.1 = some p.2 := fun p m => (I.pin p (List.mem_append_left _ m)).1
  rw [Vals.ref1 r]
  refine call_any_walk (iter_any hl.isList fun s2 e2 st hne => ?_)
  subst e2
  refine ⟨_, _, _, _, _, _, _, rfl, cold_walks (A := X.A.in1) hh ch hne (fun p m => Nat.ne_of_lt (Heap.lt_size (st0 p m))) its.toArray, ⟨st.1, st.2, fun p m => Heap.get?_push_of_some _ (st0 p m)⟩, truth_bools hb, fun h1 tk hk => ?_⟩
  refine ⟨.bl _, H, I.kept fun b o eo => hk b o (fun m => ?_) (Heap.get?_push_of_some _ eo), ?_, q⟩
  · rw [List.mem_singleton] at m
    exact absurd (Heap.lt_size eo) (by rw [m]; exact Nat.lt_irrefl _)
  · show Value.bool _ = Value.bool _
    rw [← L2.any_range, hb, List.size_toArray, List.length_map]
end
end Wk
/-! exceptions whose context is None, or an exception whose context is None: out of a def, to a handler -/
namespace Wk
open PySem PySem.Spec PyProof.Rows L2
/-- the context, as it stands over the ground B -/
def Lnk (B : Heap) (H : Hp) (ob : Obj) : Prop := ∀ vs : Array Value, ob.data = .fields vs → vs[2]? = some .none ∨ ∃ (x : Addr) (o2 : Obj) (us : Array Value), vs[2]? = some (.ref x) ∧ B.get? x = some o2 ∧ H x = none ∧ o2.data = .fields us ∧ us[2]? = some .none
theorem lnk_steady {B : Heap} {H : Hp} : PXN.Steady1 (Lnk B H) := fun ob v h vs e => by
  obtain ⟨_, _, dt, _⟩ := ob
  cases dt with
  | fields ws =>
    have q : ws.setIfInBounds 1 v = vs := Data.fields.inj e
    rw [← q, Array.getElem?_setIfInBounds_ne (by decide)]
    exact h ws rfl
  | _ => cases e
def Zk (B : Heap) (H : Hp) (cls : Value) (d : Option Addr) : Obj → Prop := fun ob => L2.Zc cls d ob ∧ Lnk B H ob
theorem zk_steady {B : Heap} {H : Hp} {cls : Value} {d : Option Addr} : PXN.Steady1 (Zk B H cls d) := fun ob v z => ⟨L2.Zc.steady ob _ z.1, lnk_steady ob v z.2⟩
/-- how such an exception lies behind a call -/
def CXK (P : Program) (w : World) : CXT := fun outer H s E u s' => ∃ (a : Addr) (B : Heap) (H1 : Hp) (cls : Value) (d : Option Addr),
  u = .ref a ∧ HandSPX.FlyingZ B outer a (Zk B H1 cls d) s'.heap ∧ HOk P w H1 B ∧ UB (frs outer) H H1 s.heap B s'.heap ∧ H1 a = none ∧ s'.os = s.os ∧ AllBare s'.gens ∧ E cls d H1
theorem cxk_of_n {P : Program} {w : World} {outer : List Env} {H : Hp} {s s' : Shared} {E : XK} {u : Value} : L2N.CX P w outer H s E u s' → CXK P w outer H s E u s' := fun ⟨a, B, H1, cls, d, e, fl, r⟩ =>
  ⟨a, B, H1, cls, d, e, L2H.flyingZ_imp (fun _ z => ⟨z.zc, fun vs q => .inl (z.2.2 vs q)⟩) fl, r⟩
section
variable {X : Cx} {pins : List (Addr × Obj)} {σ : L2.St} {H : Hp} {s s' : Shared} {E : XK} {u : Value}
/-- in a def that lets such out: those without a context -/
theorem takesN_K (hs : X.stack = X.env :: X.outer) (hf : X.env.frame = some X.env.locals) (hex : X.ex = []) {E2 : Value → Shared → Prop}
    (hx : X.xe = fun e s1 => wpAny (model X.prog X.w) X.A (leaving X.env e) (fun _ s2 => CXK X.prog X.w X.outer X.H_0 X.s_0 E e s2) E2 s1) : L2N.Takes X (fun cls d _ H => E cls d H) := fun u s1 x => by
  rw [hx]
  exact wpAny_mono (L2N.XE.leave (W := fun cls d _ H => E cls d H) (E := E) (E₁ := E2) hs hf hex (fun _ _ _ _ h => h) x) (fun _ _ h => cxk_of_n h) fun _ _ h => h
/-- behind a call: the state once the exception has come down -/
theorem cxk_land (I : Inv X pins σ H s) (c : CXK X.prog X.w X.stack H s E u s') : ∃ (a : Addr) (B : Heap) (H1 : Hp) (cls : Value) (d : Option Addr), u = .ref a ∧ HandSPX.FlyingZ B X.stack a (Zk B H1 cls d) s'.heap ∧ H1 a = none ∧ E cls d H1 ∧
    ∀ h3, B.StaysIn h3 → s'.heap.UpToSlots h3 → Inv X pins σ H1 { s' with heap := h3 } := by
  obtain ⟨a, B, H1, cls, d, rfl, fl, hok, ub, na, os, ag, hE⟩ := c
  refine ⟨a, B, H1, cls, d, rfl, fl, na, hE, fun h3 st up => ?_⟩
  have frame : ∀ b o, s.heap.get? b = some o → b ∈ frs X.stack → ∃ sl, h3.get? b = some { o with slots := sl } := fun b o e m => by
    obtain ⟨_, o1, e1, nf⟩ := I.stack.mem m
    rw [e] at e1
    cases e1
    obtain ⟨sl, g⟩ := ub.slot b o e m
    obtain ⟨sl2, g2⟩ := up b _ g nf
    exact ⟨sl2, g2⟩
  refine I.call' (s' := { s' with heap := h3 }) (ch := []) os ⟨fun b o e n m _ => st b o (ub.keep b o e n m), fun b o e _ m _ => frame b o e m, fun b o e n _ => ub.free b o e n, fun b o e _ => ?_, ub.tups, ub.frzs, ub.tbls⟩ (hok.kept st) ag (fun _ z => nomatch z)
  by_cases m : b ∈ frs X.stack
  · obtain ⟨sl, g⟩ := frame b o e m
    exact ⟨_, g⟩
  · obtain ⟨o1, g⟩ := ub.there b o e m
    exact ⟨o1, st b o1 g⟩
end
/-- a call's exceptions are taken -/
def TakesK (X : Cx) (W : WX) : Prop := ∀ σ, PassesAt (CXK X.prog X.w) X σ (WE W σ)
/-- what the one clause wishes: it names the class -/
def wK (K : PySem.W.Frag) (c : Value) (i : Nat) (ts : Addr → Value → Option Addr → TS) (D : Ends) : WX := fun cls d σ H => PySem.W.exmOne K cls c = some true ∧
  ∀ a, H a = none → ts a cls d { nx := fun σ1 H1 => D.nx (σ1.set i none) H1, rt := D.rt, bk := fun σ1 H1 => D.bk (σ1.set i none) H1, ct := fun σ1 H1 => D.ct (σ1.set i none) H1 } (σ.set i (some (.ref a))) H
theorem drop_pins {X : Cx} {ex pins : List (Addr × Obj)} {σ : L2.St} {H : Hp} {s : Shared} (I : Inv X (ex ++ pins) σ H s) : Inv X pins σ H s :=
  { I with pin := fun p m => I.pin p ((List.mem_append.mp m).elim (fun z => List.mem_append_left _ z) fun z => List.mem_append_right _ (List.mem_append_right _ z)) }
section
variable {X : Cx} {x n : Str} {c : Value} {i : Nat} {body suite : List Stmt} {b₀ : Stmt} {np pos pos' : Pos} {tb : WX → TS} {ts : Addr → Value → Option Addr → TS}
theorem ps_try_asK (hs : X.stack = X.env :: X.outer) (hf : X.env.frame = some X.env.locals) (hN : X.N.Nodup) (hi : X.N[i]? = some n) (hln : X.env.kindOf n = some .local) (hc : Names X x c)
    (hb : ∀ (W : WX) (pn : List (Addr × Obj)) (xe : Value → Shared → Prop), TakesK (X.tr pn xe) W → PSs (X.tr pn xe) body (tb W))
    (hsu : ∀ (a : Addr) (oe : Obj) (cls : Value) (d : Option Addr) (pn : List (Addr × Obj)), L2.Zc cls d oe → (∃ vs, oe.data = .fields vs) → HotK (X.suite a ((a, oe) :: pn)) → PSs (X.suite a ((a, oe) :: pn)) (b₀ :: suite) (ts a cls d)) :
    PS X (.Try body [.ExceptHandler (some (.Name x np)) (some n) (b₀ :: suite) pos'] [] [] pos) (fun D σ H => tb (wK X.K c i ts D) D σ H) := by
  refine ⟨fun pins s σ H D I h => ?_⟩
  have ok := I.ok
  have hfr : X.A.frames = some (X.env :: X.outer) := ok.frames.trans (congrArg some hs)
  refine wpAny_Try_except ?_
  refine wpAny_mono ((hb (wK X.K c i ts D) (X.pn ++ pins) (fun e s1 => wpAny (model X.prog X.w) X.A (noteFrame e X.env) (fun _ s2 => wpAny (model X.prog X.w) X.A (setFlight e none) (fun _ s3 =>
    wpAny (model X.prog X.w) X.A (handleBy e X.env [.ExceptHandler (some (.Name x np)) (some n) (b₀ :: suite) pos']) (SP X pins D) X.xe s3) X.xe s2) X.xe s1) fun σ1 pins1 H0 s1 e s' J cx => ?_).run [] s σ H D (I.toTry _) h) (fun f s1 hsp => ?_) fun _ _ z => z
  · obtain ⟨a, B, H1, cls, d, rfl, fl, na, ⟨hm, hyes⟩, land⟩ := cxk_land (J.ofTry ok) cx
    rw [hs] at fl
    show wpAny (model X.prog X.w) X.A (noteFrame (.ref a) X.env) _ _ _
    refine L2N.Sky.land zk_steady hfr hf (.inr (.inl fl)) fun h3 fl3 up3 => ?_
    have J3 := land h3 fl3.1 up3
    obtain ⟨ob3, vs3, g3, z3, d3⟩ := fl3.there
    have nfr : a ∉ frs (X.env :: X.outer) := fun m => by
      obtain ⟨_, o1, e1, nf⟩ := fl3.2.2.1.mem m
      rw [g3] at e1
      cases e1
      exact nf _ d3
    have nL : a ≠ X.env.locals := fun z => nfr (List.mem_filterMap.mpr ⟨X.env, List.mem_cons_self, hf.trans (congrArg some z.symm)⟩)
    have nF : a ∉ X.fs := fun m => by
      obtain ⟨e1, m1, q1⟩ := List.mem_filterMap.mp m
      exact nfr (List.mem_filterMap.mpr ⟨e1, List.mem_cons_of_mem _ m1, q1⟩)
    have S3 := J3.suite g3 d3 na nL nF
    refine wpAny_handleBy_cons (codeAny_handlers_test ?_) (by intro q; cases q)
    have look : PySem.W.Looks (model X.prog X.w) h3 (typeOf (.ref a)) cls := fun _ _ _ _ k q => wpAny_typeOf_ref (k _ _ g3) (by rw [z3.1.1]; exact q)
    have test : ∀ {Q : Value → Shared → Prop} {E2 : Value → Shared → Prop}, Q c { s' with heap := h3 } → wpAny (model X.prog X.w) (X.A.mark (some (.ref a))) (eval (.Name x np) X.env) Q E2 { s' with heap := h3 } := fun q => by
      obtain ⟨hg, hdb, hm | ⟨hm, hv, hn⟩⟩ := hc
      · exact ld_glob (X := X.suite a ((a, ob3) :: (X.pn ++ pins))) S3 hg hm q hdb
      · exact ld_blt (X := X.suite a ((a, ob3) :: (X.pn ++ pins))) S3 hg hm hv q hn hdb
    refine test ((PySem.W.exm_one (M := model X.prog X.w) J3.kIn look hm).here ?_)
    refine codeAny_handlers_suite_as (HandSPX.lands_againZ fl3 fun h4 fl4 up4 => ?_)
    have J4 := land h4 fl4.1 (up3.trans up4)
    obtain ⟨ob, vs, g4, ⟨zc, lk⟩, d4⟩ := fl4.there
    have pinned : ∃ ex : List (Addr × Obj), Inv X (ex ++ pins) σ1 H1 { s' with heap := h4 } ∧ Chn a ((a, ob) :: (X.pn ++ (ex ++ pins))) := by
      rcases lk vs d4 with z | ⟨x2, o2, us, q1, q2, q3, q4, q5⟩
      · exact ⟨[], J4, ob, vs, List.mem_cons_self, d4, .inl z⟩
      · have n2 : x2 ∉ frs (X.env :: X.outer) := fun m => by
          have := (fl4.2.2.1.mem m).1
          rw [q2] at this
          cases this
        refine ⟨[(x2, o2)], { J4 with pin := fun p m => ?_ }, ob, vs, List.mem_cons_self, d4, .inr ⟨x2, o2, us, fun z => ?_, q1, List.mem_cons_of_mem _ (List.mem_append_right _ List.mem_cons_self), q4, q5⟩⟩
        · rcases List.mem_append.mp m with m | m
          · exact J4.pin p (List.mem_append_left _ m)
          · rcases List.mem_cons.mp m with m | m
            · rw [m]
              exact ⟨fl4.1 _ _ q2, q3, fun z => n2 (List.mem_filterMap.mpr ⟨X.env, List.mem_cons_self, hf.trans (congrArg some z.symm)⟩), fun z => n2 (by
                obtain ⟨e1, m1, y1⟩ := List.mem_filterMap.mp z
                exact List.mem_filterMap.mpr ⟨e1, List.mem_cons_of_mem _ m1, y1⟩), fun v z => by rw [q4] at z; cases z⟩
            · exact J4.pin p (List.mem_append_right _ m)
        · rw [z, fl4.2.1] at q2
          cases q2
    obtain ⟨ex, J5, ch⟩ := pinned
    refine store_ok (X := X.suite a ((a, ob) :: (X.pn ++ (ex ++ pins)))) (v := .ref a) (J5.suite g4 d4 na nL nF) hN hi (.inl hln) rfl (fun s5 S5 => ?_) (.inr hln)
    refine wpAny_mono ((hsu a ob cls d (X.pn ++ (ex ++ pins)) zc ⟨_, d4⟩ ⟨a, rfl, ch⟩).run [] s5 _ H1 _ S5 (hyes a na)) (fun f s6 hsp => ?_) fun _ _ z => False.elim z
    have gone : ∀ {σ6 : L2.St} {H6 : Hp} {Q : Shared → Prop}, Inv (X.suite a ((a, ob) :: (X.pn ++ (ex ++ pins)))) [] σ6 H6 s6 → (∀ s7, Inv X pins (σ6.set i none) H6 s7 → Q s7) →
        wpAny (model X.prog X.w) X.A (do bindName X.env n .none; unbindBehindTheSuite X.env n pos') (fun _ s7 => Q s7) X.xe s6 := fun S6 q => gone_ok (S6.unsuite ok) hN hi hln fun s7 S7 => q s7 (drop_pins S7)
    cases f with
    | ret u =>
      obtain ⟨v6, σ6, H6, S6, r6, q6⟩ := hsp
      exact gone S6 fun _ S7 => ⟨_, _, _, S7, r6, q6⟩
    | _ =>
      obtain ⟨σ6, H6, S6, q6⟩ := hsp
      exact gone S6 fun _ S7 => ⟨_, _, S7, q6⟩
  · cases f with
    | next =>
      obtain ⟨σ1, H1, J1, q⟩ := hsp
      exact wpAny_execs_nil ⟨_, _, J1.ofTry ok, q⟩
    | ret u =>
      obtain ⟨v, σ1, H1, J1, r, q⟩ := hsp
      exact ⟨_, _, _, J1.ofTry ok, r, q⟩
    | _ =>
      obtain ⟨σ1, H1, J1, q⟩ := hsp
      exact ⟨_, _, J1.ofTry ok, q⟩
end
section
variable {Y : Cx} {E : XK} {e : Expr} {t : L2.St → Hp → XK → Prop} {pos : Pos} {A0 : Around}
/-- raise X(..) in an except suite, out of the def: the context is the handled exception -/
theorem ps_raiseK (hc : L2H.HotC Y) (hs : Y.stack = Y.env :: Y.outer) (hf : Y.env.frame = some Y.env.locals) (hex : Y.ex = []) (hA : A0.frames = Y.A.frames) {E2 : Value → Shared → Prop}
    (hx : Y.xe = fun e s1 => wpAny (model Y.prog Y.w) A0 (leaving Y.env e) (fun _ s2 => CXK Y.prog Y.w Y.outer Y.H_0 Y.s_0 E e s2) E2 s1) (he : L2N.PMk Y e t) :
    PS Y (.Raise (some e) none pos) (fun _ σ H => t σ H fun cls d H1 => E cls d H1) := by
  refine ⟨fun pins s σ H D I h => ?_⟩
  obtain ⟨p, ⟨hh, v1, e1, c1⟩, hp⟩ := hc
  show wpAny _ _ (do standAt pos; raiseStmt Y.env (some (do let v ← eval e Y.env; standAt pos; pure v)) none) _ _ _
  refine wpAny_bind (wpAny_standAt (HotX.raise_made_hot (x1 := p.1) (wpAny_bind (wpAny_mono (he pins s σ H _ I h) (fun u s1 hu => wpAny_bind (wpAny_standAt (wpAny_pure ?_))) fun _ _ z => z))))
  obtain ⟨a, ob, vs, sI, H1, cls, d, rfl, J, k, hne, ha, hz, hd, h1, na, os, ag, r, q⟩ := hu
  obtain ⟨r1, r2⟩ := r (model Y.prog Y.w) s1.heap (J.kIn.keeps k)
  obtain ⟨P1, P2, P3, P4, _⟩ := J.pin p (List.mem_append_left _ hp)
  have nap : p.1 ≠ a := fun z => by
    rw [z, hne] at P1
    cases P1
  have sz : 2 < vs.size := (Array.getElem?_eq_some_iff.mp (hz.2.2 vs hd)).1
  refine ⟨a, ob, vs, cls, rfl, ha, hz.1, hd, h1, sz, nap, ⟨hh, p.2, v1, k _ _ P1, e1, c1⟩, r1, r2, ?_⟩
  have nst : p.1 ∉ frs Y.stack := fun m => (List.mem_cons.mp (J.stkSub p.1 m)).elim P3 P4
  have oth : ∀ b o, sI.heap.get? b = some o → (s1.heap.update a (Obj.mapFields (·.setIfInBounds 2 (.ref p.1)))).get? b = some o := fun b o g => by
    rw [Heap.get?_update_other _ _ fun z => by rw [← z, hne] at g; cases g]
    exact k b o g
  have hx2 : (vs.setIfInBounds 2 (Value.ref p.1))[1]? = some Value.none := by
    rw [Array.getElem?_setIfInBounds_ne (by decide)]
    exact h1
  have hx3 : (vs.setIfInBounds 2 (Value.ref p.1))[2]? = some (Value.ref p.1) := by
    rw [Array.getElem?_setIfInBounds_self_of_lt sz]
  have hob := Heap.get?_update_self (Obj.mapFields (·.setIfInBounds 2 (.ref p.1))) ha (Obj.isFreed_of_fields (Obj.data_mapFields hd _))
  have hdt : (Obj.mapFields (·.setIfInBounds 2 (.ref p.1)) ob).data = .fields (vs.setIfInBounds 2 (Value.ref p.1)) := Obj.data_mapFields hd _
  generalize s1.heap.update a (Obj.mapFields (·.setIfInBounds 2 (.ref p.1))) = h2 at *
  have nb : ∀ b o, sI.heap.get? b = some o → b ∉ frs Y.stack → (PySem.W.hideAll sI.heap (frs Y.stack)).get? b = some o := fun b o g m => PySem.W.hideAll_get _ g m
  have fr0 := funFrames_none J.stack fun b m => PySem.W.hideAll_none (h := sI.heap) (frs Y.stack) m
  have hokB := J.inGround nb
  have back : ∀ b o, (PySem.W.hideAll sI.heap (frs Y.stack)).get? b = some o → sI.heap.get? b = some o := fun b o g => PySem.W.of_hideAll _ g
  generalize PySem.W.hideAll sI.heap (frs Y.stack) = B at *
  have hzk : Zk B H1 cls d (Obj.mapFields (·.setIfInBounds 2 (.ref p.1)) ob) := by
    refine ⟨⟨(Obj.cls_mapFields ..).trans hz.1, (HandSPX.dict_mapFields ..).trans hz.2.1⟩, fun ws g => ?_⟩
    rw [hdt] at g
    cases g
    exact .inr ⟨p.1, p.2, v1, hx3, nb _ _ P1 nst, P2, e1, c1⟩
  have hna : B.get? a = none := by
    cases g : B.get? a with
    | none => rfl
    | some o =>
      have z := back _ _ g
      rw [hne] at z
      cases z
  rw [hx]
  have hfr : A0.frames = some (Y.env :: Y.outer) := by rw [hA, J.ok.frames, hs]
  rw [hs] at fr0
  refine PXN.leaving_firstZ (s := { s1 with heap := h2 }) (Z := Zk B H1 cls d) zk_steady hfr (Heap.FunFrames.of_keeps (fun b o g _ => ⟨o, oth b o g, rfl⟩) fr0) hf hob (fun b o g => oth b o (back b o g)) hna hdt hx2 hzk fun h3 fl up => ?_
  have far : ∀ b o, Y.s_0.heap.get? b = some o → b ∉ Y.fs → b ∉ frs Y.stack := fun b o g m z => (List.mem_cons.mp (J.stkSub b z)).elim (fun y => by
    have l1 := Heap.lt_size g
    have l2 := J.ok.above
    rw [y] at l1
    exact absurd (Nat.lt_of_lt_of_le l1 l2) (Nat.lt_irrefl _)) m
  have nex : ∀ b, b ∉ Y.ex := fun b m => by
    rw [hex] at m
    cases m
  refine ⟨a, B, H1, cls, d, rfl, fl, hokB, ⟨fun b o g n m => nb b o (J.base.keep b o g n m (nex b)) (far b o g m), fun b o g m => ?_, fun b o g n => J.base.free b o g n (nex b), fun b o g m => ?_, J.base.tups, J.base.frzs, J.base.tbls⟩, na, os.trans J.os, ag, q⟩
  · obtain ⟨_, o1, g1, nf⟩ := J.ok.funs.mem m
    rw [g] at g1
    cases g1
    obtain ⟨sl, g2⟩ := J.base.slot b o g (J.ok.frf b m) m (nex b)
    obtain ⟨sl2, g3⟩ := up b _ (oth _ _ g2) nf
    exact ⟨sl2, g3⟩
  · obtain ⟨o1, g1⟩ := J.base.there b o g (nex b)
    exact ⟨o1, nb b o1 g1 (far b o g m)⟩
end
end Wk
/-! law 6: defs that raise; numbers -/
namespace Wk
open PySem PySem.Spec PyProof.Rows L2 Spr TL
/-- a def that may raise, under its name -/
structure CalK (P : Program) (w : World) (K : PySem.W.Frag) (mg : Str → Option Value) (base : Heap) (k : Nat) (x : Str) (sp : Sp) : Prop where
  ex : ∃ (f : Addr) (fd : FuncData) (ps : List Str), FnOk P w K mg base (CXK P w) k f fd ps sp ∧ mg x = some (.ref f) ∧ PySem.W.keepIn K (.ref f) = true ∧ Binds K fd ps []
/-- .. whose exceptions have no context -/
structure CalN (P : Program) (w : World) (K : PySem.W.Frag) (mg : Str → Option Value) (base : Heap) (k : Nat) (x : Str) (sp : Sp) : Prop where
  ex : ∃ (f : Addr) (fd : FuncData) (ps : List Str), FnOk P w K mg base (L2N.CX P w) k f fd ps sp ∧ mg x = some (.ref f) ∧ PySem.W.keepIn K (.ref f) = true ∧ Binds K fd ps []
section
variable {X : Cx} {sp : Sp} {E : L2.St → XK} {x : Str} {p pos : Pos} {e : Expr} {es : List Expr} {t : TA} {k j : Nat}
theorem pe_ck (c : CalK X.prog X.w X.K X.mg X.base k x sp) (hr : Room j X.A) (hk : k ≤ j) (hg : Gl X x) (hx : ∀ σ, PassesAt (CXK X.prog X.w) X σ (E σ)) (ha : PA X (e :: es) t)
    (hdb : (x == ("__debug__" : Str)) = false := by decide) (he : starEach (e :: es) X.env = (false, eval e X.env) :: starEach es X.env := by rfl) (hpl : (backTo pos (starEach es X.env)).any (·.1) = false := by rfl) :
    PE X (.Call (.Name x p) (e :: es) [] pos) (tCallS sp E t) := by
  refine ⟨fun pins s σ H Q I h => ?_⟩
  obtain ⟨f, fd, ps, F, hm, hkp, hb⟩ := c.ex
  exact (pe_callS F (hr.mono hk) hg hm hkp hb hx ha hdb he hpl).run pins s σ H Q I h
theorem pe_cn (c : CalN X.prog X.w X.K X.mg X.base k x sp) (hr : Room j X.A) (hk : k ≤ j) (hg : Gl X x) (hx : ∀ σ, PassesAt (L2N.CX X.prog X.w) X σ (E σ)) (ha : PA X (e :: es) t)
    (hdb : (x == ("__debug__" : Str)) = false := by decide) (he : starEach (e :: es) X.env = (false, eval e X.env) :: starEach es X.env := by rfl) (hpl : (backTo pos (starEach es X.env)).any (·.1) = false := by rfl) :
    PE X (.Call (.Name x p) (e :: es) [] pos) (tCallS sp E t) := by
  refine ⟨fun pins s σ H Q I h => ?_⟩
  obtain ⟨f, fd, ps, F, hm, hkp, hb⟩ := c.ex
  exact (pe_callS F (hr.mono hk) hg hm hkp hb hx ha hdb he hpl).run pins s σ H Q I h
/-- nothing is let out -/
theorem pass0K (σ : L2.St) : PassesAt (CXK X.prog X.w) X σ C8.E0 := fun _ _ _ _ _ _ h => by
  obtain ⟨_, _, _, _, _, _, _, _, _, _, _, _, z⟩ := h
  exact z.elim
/-- a call without arguments -/
theorem pe_c0 (c : C8.Cal X.prog X.w X.K X.mg X.base k x sp []) (hr : Room j X.A) (hk : k ≤ j) (hg : Gl X x) (hdb : (x == ("__debug__" : Str)) = false := by decide) :
    PE X (.Call (.Name x p) [] [] pos) (tCall sp [] C8.E0 tNil) := by
  obtain ⟨f, fd, ps, ds, F, hm, kp, b, d⟩ := c.ex
  exact pe_call0 F (hr.mono hk) hg hm kp b d C8.pass0 hdb
end
section
variable {P : Program} {w : World} {K : PySem.W.Frag} {mg : Str → Option Value} {base : Heap} {C1 C2 C3 C4 : Addr}
theorem DefAt.calK {x : Str} {st : Stmt} {N ps : List Str} {k : Nat} {sp : Sp} (D : DefAt K mg x st ps) (S : FnScope N ps (defScope st)) (len : ∀ vs H Q E, sp vs H Q E → vs.length = ps.length)
    (hbody : ∀ (f : Addr) (cdv : Value) (A : Around) (outer : List Env) (s : Shared) (H : Hp) (vs : List V) (Q : VK) (E : XK), Room k (A.deeper (envOfC x (defScope st) s.heap.objs.size f cdv)) → sp vs H Q E →
      ∃ t, PSs (cxOf (CXK P w) P w K mg base N x (defScope st) f cdv A outer s H E) (defBody st) t ∧ t { nx := fun _ H' => Q .non H', rt := Q } (start N vs) H) : CalK P w K mg base (k + 1) x sp := by
  obtain ⟨f, fd, F, hm, b⟩ := D.ex
  refine ⟨f, fd, ps, ?_, hm, F.kp, b⟩
  obtain ⟨oc, od, kV, doc, pm, an, cdv, ct, osl, rfl, lk, hcd⟩ := F.ex
  exact fn_of lk hcd S len fun A outer s H vs Q E hr hsp => hbody f cdv A outer s H vs Q E hr hsp
theorem DefAt.calN {x : Str} {st : Stmt} {N ps : List Str} {k : Nat} {sp : Sp} (D : DefAt K mg x st ps) (S : FnScope N ps (defScope st)) (len : ∀ vs H Q E, sp vs H Q E → vs.length = ps.length)
    (hbody : ∀ (f : Addr) (cdv : Value) (A : Around) (outer : List Env) (s : Shared) (H : Hp) (vs : List V) (Q : VK) (E : XK), Room k (A.deeper (envOfC x (defScope st) s.heap.objs.size f cdv)) → sp vs H Q E →
      ∃ t, PSs (cxOf (L2N.CX P w) P w K mg base N x (defScope st) f cdv A outer s H E) (defBody st) t ∧ t { nx := fun _ H' => Q .non H', rt := Q } (start N vs) H) : CalN P w K mg base (k + 1) x sp := by
  obtain ⟨f, fd, F, hm, b⟩ := D.ex
  refine ⟨f, fd, ps, ?_, hm, F.kp, b⟩
  obtain ⟨oc, od, kV, doc, pm, an, cdv, ct, osl, rfl, lk, hcd⟩ := F.ex
  exact fn_of lk hcd S len fun A outer s H vs Q E hr hsp => hbody f cdv A outer s H vs Q E hr hsp
end
/-! ### evaluators -/
theorem strV {a b : Str} : decide (V.str a = V.str b) = decide (a = b) := by
  by_cases h : a = b
  · rw [decide_eq_true h, decide_eq_true (congrArg V.str h)]
  · rw [decide_eq_false h, decide_eq_false fun z => h (V.str.inj z)]
section
variable {K : PySem.W.Frag} {σ : L2.St} {H : Hp} {te ta tb tl : TE} {tt : TT}
theorem ev_m1 {r : V → List V → Hp → VK → Prop} {a : Str} {b z : V} (h1 : Evl.Ev ta σ H (.str a)) (h2 : Evl.Ev tb σ H b) (hr : ∀ H1 (Q : VK), Same H H1 → Q z H1 → r (.str a) [b] H1 Q) : Evl.Ev (tM1 r ta tb) σ H z := fun H0 s0 Q q =>
  h1 H0 s0 _ fun H1 s1 => ⟨⟨a, rfl⟩, h2 H1 (Same.trans s0 s1) _ fun H2 s2 => hr H2 Q (Same.trans (Same.trans s0 s1) s2) (q H2 (Same.trans s1 s2))⟩
theorem ev_lenS {a : Str} (h : Evl.Ev ta σ H (.str a)) (hl : a.length ≤ 100000) : Evl.Ev (tCB (fun xs H Q => ∃ s : Str, xs = [.str s] ∧ s.length ≤ sizeLine ∧ Q (.int s.length) H) (tCons ta tNil)) σ H (.int (a.length : Int)) := fun H0 s0 Q q =>
  h H0 s0 _ fun H1 s1 => ⟨a, rfl, Evl.sz_of hl, q H1 s1⟩
theorem ev_cutS {tl th : TO} {a : Str} {lo hi : Option Int} (h : Evl.Ev ta σ H (.str a)) (hl : a.length ≤ 100000) (h1 : Evl.EvO tl σ H lo) (h2 : Evl.EvO th σ H hi) : Evl.Ev (tSl rSlS ta tl th) σ H (.str (cutS a lo hi)) := fun H0 s0 Q q =>
  h H0 s0 _ fun H1 s1 => h1 H1 (Same.trans s0 s1) _ fun H2 s2 => h2 H2 (Same.trans (Same.trans s0 s1) s2) _ fun H3 s3 => ⟨a, rfl, Evl.sz_of hl, q H3 (Same.trans (Same.trans s1 s2) s3)⟩
theorem rv_eqS {a b : Str} : Evl.RV rEq (.str a) (.str b) H (.bl (decide (a = b))) := fun H1 _ _ q => ⟨rfl, by rw [strV]; exact q H1 (Evl.Ex.refl H1)⟩
theorem rv_neS {a b : Str} : Evl.RV rNe (.str a) (.str b) H (.bl (!decide (a = b))) := fun H1 _ _ q => ⟨rfl, by rw [strV]; exact q H1 (Evl.Ex.refl H1)⟩
end
theorem atS {l : List Nat} {c : Nat} (h : l.head? = some c) : atI l 0 = some c := by
  cases l with
  | nil => cases h
  | cons x r =>
    rw [← Option.some.inj h]
    exact atI_nat (j := 0) rfl
theorem one_zero {c : Nat} : decide ((⟨#[c]⟩ : Str) = "0") = decide (c = 48) := by
  by_cases h : c = 48
  · subst h; rfl
  · rw [decide_eq_false h, decide_eq_false fun z => h ?_]
    have := congrArg tl z
    injection this
theorem w_zero {w : Str} : decide (w = "0") = decide (tl w = [48]) := by
  by_cases h : tl w = [48]
  · rw [decide_eq_true h]
    exact decide_eq_true (ext_tl h)
  · rw [decide_eq_false h, decide_eq_false fun z => h (by rw [z]; rfl)]
/-- the figures of a word -/
def figT (w : Str) : Str := if (tl w).head? = some 45 then cutS w (some 1) none else w
theorem figT_tl (w : Str) : tl (figT w) = figsL (tl w) := by
  unfold figT figsL
  split
  · exact tl_cut1 w
  · rfl
theorem figT_len (w : Str) : (figT w).length ≤ w.length := by
  unfold figT
  split
  · exact cutS_length _ _ _
  · exact Nat.le_refl _
theorem head_some {l : List Nat} (h : 1 ≤ l.length) : ∃ c, l.head? = some c := by
  cases l with
  | nil => exact absurd h (by decide)
  | cons c r => exact ⟨c, rfl⟩
theorem head_dec {l : List Nat} {c : Nat} (h : l.head? = some c) : decide (l.head? = some 48) = decide (c = 48) := by
  rw [h]
  by_cases e : c = 48
  · subst e; rfl
  · rw [decide_eq_false e, decide_eq_false fun z => e (Option.some.inj z)]
/-- what the tests have in common -/
def tailB (x : Str) : Bool := (!decide (Txt.stripChars (figT x) "0123456789" = "")) || (decide ((figsL (tl x)).head? = some 48) && !decide (x = "0"))
theorem bad_is (x : Str) (b : Bool) (h : b = !(decide (1 ≤ (figsL (tl x)).length) && decide ((figsL (tl x)).length ≤ 60))) : badL (tl x) = (b || tailB x) := by
  unfold badL tailB
  rw [strip_fig, figT_tl, w_zero, h]
theorem figT_len2 (x : Str) : (figT x).length = (figsL (tl x)).length := by rw [len_tl, figT_tl]
theorem bad_is1 (x : Str) : badL (tl x) = (!(decide ((1 : Int) ≤ ((figT x).length : Int)) && decide (((figT x).length : Int) ≤ 60)) || tailB x) := by
  refine bad_is x _ ?_
  rw [figT_len2]
  generalize (figsL (tl x)).length = n
  rw [show decide ((1 : Int) ≤ (n : Int)) = decide (1 ≤ n) from decide_eq_decide.mpr (by omega), show decide ((n : Int) ≤ 60) = decide (n ≤ 60) from decide_eq_decide.mpr (by omega)]
theorem bad_is2 (x : Str) : badL (tl x) = (decide (figT x = "") || (decide (((figT x).length : Int) > 60) || tailB x)) := by
  rw [← Bool.or_assoc]
  refine bad_is x _ ?_
  have e : decide (figT x = "") = decide ((figsL (tl x)).length = 0) := decide_eq_decide.mpr (by
    rw [← figT_len2]
    constructor
    · intro z; rw [z]; rfl
    · intro z; exact ext_tl ((len0_tl _).mp z))
  rw [e, figT_len2]
  generalize (figsL (tl x)).length = n
  by_cases h0 : n = 0
  · subst h0; rfl
  · by_cases h1 : n ≤ 60
    · rw [decide_eq_false h0, decide_eq_false (by omega), decide_eq_true (by omega), decide_eq_true h1]; rfl
    · rw [decide_eq_false h0, decide_eq_true (show ((n : Nat) : Int) > 60 by omega), decide_eq_false h1, Bool.and_false]; rfl
theorem num_test {K : PySem.W.Frag} {σ : L2.St} {H : Hp} {x : Str} (hl : (figT x).length ≤ 50000) (h0 : σ[0]? = some (some (.str x))) (h1 : σ[1]? = some (some (.str (figT x)))) (hc : 1 ≤ (figT x).length) :
    Evl.EvT (tOr (tTest (tOp rNe (tM1 (fun x xs H Q => ∃ a b, x = V.str a ∧ xs = [V.str b] ∧ a.length ≤ sizeLine ∧ Q (V.str (Txt.stripChars a b)) H) (tVar 1) (tC (.str "0123456789"))) (tC (.str ""))))
      (tAnd (tTest (tOp rEq (tOp rIxS (tVar 1) (tC (.int 0))) (tC (.str "0")))) (tTest (tOp rNe (tVar 0) (tC (.str "0")))))) σ H (tailB x) := by
  obtain ⟨c, hcc⟩ := head_some (l := figsL (tl x)) (by rw [← figT_len2]; exact hc)
  refine Evl.et_or (Evl.et_test (Evl.ev_op (ev_m1 (z := .str (Txt.stripChars (figT x) "0123456789")) (Evl.ev_var h1) Evl.ev_c fun H' Q' _ q' => ⟨figT x, "0123456789", rfl, rfl, Evl.sz_of (by omega), q'⟩) Evl.ev_c rv_neS)) fun _ => ?_
  refine Evl.et_is (Evl.et_and (a := decide ((⟨#[c]⟩ : Str) = "0")) (b := !decide (x = "0")) (Evl.et_test (Evl.ev_op (Evl.ev_op (Evl.ev_var h1) Evl.ev_c (Evl.rv_ixS (by omega) (atS (by rw [← hcc, ← figT_tl])))) Evl.ev_c rv_eqS)) fun _ => Evl.et_test (Evl.ev_op (Evl.ev_var h0) Evl.ev_c rv_neS)) (by rw [one_zero, head_dec hcc])
section
variable {P : Program} {w : World} {K : PySem.W.Frag} {mg : Str → Option Value} {base : Heap} {C1 C2 C3 C4 : Addr}
def spNum (C : Addr) : Sp := fun vs H Q E => ∃ x : Str, vs = [.str x] ∧ x.length ≤ 50000 ∧ (okN x = true → ∀ H', Same H H' → Q (.int (valN x)) H') ∧ (okN x = false → ∀ H', Same H H' → E (.ref C) none H')
theorem caln_number_in (T : Top K mg) (TX : TopX K mg C1 C2 C3 C4) : CalN P w K mg base 1 "number_in" (spNum C4) := by
  obtain ⟨tF, gF⟩ := TX.k_FIGURES
  refine T.d_number_in.calN sc_number_in (fun vs H Q E h => ?_) (fun f cdv A outer s H vs Q E hr h => ?_)
  · obtain ⟨x, rfl, _⟩ := h
    rfl
  · obtain ⟨x, rfl, hl, q1, q2⟩ := h
    refine ⟨_, (pss_cons (ps_set (i := 1) sc_number_in.nd rfl (Or.inl rfl) (pv 0))
 (pss_cons (ps_if (pt_val (pe_m1 PySem.F.slot_str_startswith PySem.F.type_str_startswith mt_startswith (pv 0) pe_str))
 (pss_one (ps_set (i := 1) sc_number_in.nd rfl (Or.inl rfl) (pe_slice sl_str (pv 0) (po_some pe_int) po_none)))
 pss_nil)
 (pss_cons (ps_if (PW.pt (pw_or (pt_not (pt_chain op_le op_le pe_int (pe_callB call_len_str (by rfl) T.m_len (by decide +kernel) (pa_cons (pv 1) pa_nil)) pe_int)) (pw_or (pt_cmpR op_ne (pe_m1 PySem.F.slot_str_strip PySem.F.type_str_strip mt_stripChars (pv 1) (pe_glob (v := .str "0123456789") rfl gF ⟨_, rfl⟩)) pe_str (nomark _)) (pw_or1 (PW.pt (pw_and (pt_cmpR op_eq (pe_ix ix_str (pv 1) pe_int (fun _ _ => rfl)) pe_str (nomark _)) (pw_and1 (pt_cmpR op_ne (pv 0) pe_str (nomark _)))))))))
 (pss_one (L2N.ps_raise rfl (L2N.takes_of rfl rfl rfl rfl) (L2N.pmk_own PySem.F.excBase_ValueError TX.x_BadText.xP TX.x_BadText.gP TX.x_BadText.kP (raises_own TX.x_BadText.bP TX.x_BadText.tP) (by exact rfl))))
 pss_nil)
 (pss_one (ps_ret (pe_callTy call_int_str (by rfl) T.m_int (by decide +kernel) (pa_cons (pv 0) pa_nil))))))), ?_⟩
    have hfl := figT_len x
    refine Evl.q_asg (Evl.ev_var rfl) fun H1 s1 => ?_
    refine Evl.q_ifAsg (v := .str (figT x)) (b := decide ((tl x).head? = some 45)) ?_ (fun e => ?_) (fun e => ?_) fun H2 s2 => ?_
    · refine Evl.et_is (Evl.et_B (ev_m1 (b := .str "-") (z := .bl (Txt.startswith x "-")) (Evl.ev_var rfl) Evl.ev_c fun H' Q' _ q' => ⟨x, "-", rfl, rfl, q'⟩)) (starts_minus x)
    · have ef : figT x = cutS x (some 1) none := if_pos (of_decide_eq_true e)
      rw [ef]
      exact ev_cutS (Evl.ev_var rfl) (by omega) (Evl.eo_some Evl.ev_c) Evl.eo_none
    · have ef : figT x = x := if_neg (of_decide_eq_false e)
      rw [ef]
      rfl
    · have key := num_test (K := K) (σ := [some (.str x), some (.str (figT x))]) (H := H2) (x := x) (by omega) rfl rfl
      refine q_whenb (Evl.et_or (Evl.et_not (Evl.et_test (ev_chain Evl.ev_c (ev_lenS (Evl.ev_var rfl) (by omega)) Evl.ev_c))) fun ha => key (by
        rw [Bool.not_eq_false', Bool.and_eq_true, decide_eq_true_iff] at ha
        omega)) (fun e H3 s3 => ?_) (fun e H3 s3 => ?_)
      all_goals
        have eb : badL (tl x) = _ := (bad_is1 x).trans e
      · exact q2 (by unfold okN; rw [eb]; rfl) H3 ((s1.trans s2).trans s3)
      · have g := good_of eb
        have hlen := g.len
        exact ⟨_, rfl, x, _, rfl, g.txt, by omega, q1 (by unfold okN; rw [eb]; rfl) H3 ((s1.trans s2).trans s3)⟩
def numV (x : Str) : V := if okN x then .int (valN x) else .non
def spLnum : Sp := fun vs H Q _ => ∃ x : Str, vs = [.str x] ∧ x.length ≤ 50000 ∧ ∀ H', Same H H' → Q (numV x) H'
theorem cal_law_number (T : Top K mg) : C8.Cal P w K mg base 1 "_law_number" spLnum [] := by
  refine T.d__law_number.cal sc__law_number (fun vs H Q E h => ?_) (fun f cdv A outer s H vs Q E hr h => ?_)
  · obtain ⟨x, rfl, _⟩ := h
    rfl
  · obtain ⟨x, rfl, hl, q⟩ := h
    refine ⟨_, (pss_cons (ps_set (i := 1) sc__law_number.nd rfl (Or.inl rfl) (pe_ifExp (pt_cmpR op_eq (pe_slice sl_str (pv 0) po_none (po_some pe_int)) pe_str (nomark _)) (pe_slice sl_str (pv 0) (po_some pe_int) po_none) (pv 0)))
 (pss_cons (ps_if (PW.pt (pw_or (pt_cmpR op_eq (pv 1) pe_str (nomark _)) (pw_or (pt_cmpR op_gt (pe_callB call_len_str (by rfl) T.m_len (by decide +kernel) (pa_cons (pv 1) pa_nil)) pe_int (nomark _)) (pw_or (pt_cmpR op_ne (pe_m1 PySem.F.slot_str_strip PySem.F.type_str_strip mt_stripChars (pv 1) pe_str) pe_str (nomark _)) (pw_or1 (PW.pt (pw_and (pt_cmpR op_eq (pe_ix ix_str (pv 1) pe_int (fun _ _ => rfl)) pe_str (nomark _)) (pw_and1 (pt_cmpR op_ne (pv 0) pe_str (nomark _))))))))))
 (pss_one (ps_ret pe_non))
 pss_nil)
 (pss_one (ps_ret (pe_callTy call_int_str (by rfl) T.m_int (by decide +kernel) (pa_cons (pv 0) pa_nil)))))), ?_⟩
    have hfl := figT_len x
    refine Evl.q_asg (v := .str (figT x)) (Evl.ev_if (b := decide ((tl x).head? = some 45)) ?_ (fun e => ?_) (fun e => ?_)) fun H1 s1 => ?_
    · refine Evl.et_is (Evl.et_test (Evl.ev_op (ev_cutS (Evl.ev_var rfl) (by omega) Evl.eo_none (Evl.eo_some Evl.ev_c)) Evl.ev_c rv_eqS)) (head_cut x)
    · have ef : figT x = cutS x (some 1) none := if_pos (of_decide_eq_true e)
      rw [ef]
      exact ev_cutS (Evl.ev_var rfl) (by omega) (Evl.eo_some Evl.ev_c) Evl.eo_none
    · have ef : figT x = x := if_neg (of_decide_eq_false e)
      rw [ef]
      exact Evl.ev_var rfl
    · have key := num_test (K := K) (σ := [some (.str x), some (.str (figT x))]) (H := H1) (x := x) (by omega) rfl rfl
      refine q_whenb (Evl.et_or (Evl.et_test (Evl.ev_op (Evl.ev_var rfl) Evl.ev_c rv_eqS)) fun ha => Evl.et_or (Evl.et_test (Evl.ev_op (ev_lenS (Evl.ev_var rfl) (by omega)) Evl.ev_c Evl.rv_I0)) fun _ => key (by
        have := of_decide_eq_false ha
        have h0 : (figT x).length ≠ 0 := fun z => this (ext_tl ((len0_tl _).mp z))
        omega)) (fun e H3 s3 => ?_) (fun e H3 s3 => ?_)
      all_goals
        have eb : badL (tl x) = _ := (bad_is2 x).trans e
      · have ev : numV x = .non := if_neg (by unfold okN; rw [eb]; decide)
        rw [ev] at q
        exact q H3 (s1.trans s3)
      · have g := good_of eb
        have hlen := g.len
        have ev : numV x = .int (valN x) := if_pos (by unfold okN; rw [eb]; rfl)
        rw [ev] at q
        exact ⟨_, rfl, x, _, rfl, g.txt, by omega, q H3 (s1.trans s3)⟩
end
end Wk
/-! law 6: check_heaps, read -/
namespace Wk
open PySem PySem.Spec PyProof.Rows L2 Spr TL
section
variable {P : Program} {w : World} {K : PySem.W.Frag} {mg : Str → Option Value} {base : Heap} {C1 C2 C3 C4 : Addr}
def spCheckN (K : PySem.W.Frag) (C : Addr) : Sp := fun vs H Q E => ∃ v ds, vs = [v] ∧ Dp K H v (.list ds) ∧ ds.length < 40000 ∧ (ds.all isHeapD = true → ∀ H', Same H H' → Q .non H') ∧ (ds.all isHeapD = false → ∀ H', Same H H' → E (.ref C) none H')
theorem caln_check_heaps (T : Top K mg) (TX : TopX K mg C1 C2 C3 C4) : CalN P w K mg base 3 "check_heaps" (spCheckN K C2) := by
  have c_is_heap : C8.Cal P w K mg base 2 "is_heap" (spHeap K) [] := cal_is_heap T
  refine T.d_check_heaps.calN sc_check_heaps (fun vs H Q E h => ?_) (fun f cdv A outer s H vs Q E hr h => ?_)
  · obtain ⟨v, ds, rfl, _⟩ := h
    rfl
  · obtain ⟨v, ds, rfl, dp, hlen, q1, q2⟩ := h
    refine ⟨_, (pss_one (ps_if (PW.pt (pw_or (pt_not (pt_val (pe_callB call_isi (by rfl) T.m_isinstance (by decide +kernel) (pa_cons (pv 0) (pa_cons (pe_bltn (v := .ty "list") (by rfl) T.m_list (by decide +kernel) rfl) pa_nil))))) (pw_or1 (pt_not (pt_val (pe_callB (cr_all rfl) (by rfl) T.m_all (by decide +kernel) (pa_cons (pe_lc (own := [("heap", 1)]) (g := (gName 1)) rfl sc_check_heaps.nd (pi_list (pv 0)) (blkOk_by (own := [("heap", 1)]) (N := ["heaps", "heap"]) (sc := defScope st_check_heaps) (by decide +kernel)) (fun _ _ _ _ _ => (pg_name (i := 1) sc_check_heaps.nd rfl (Or.inl rfl))) (fun _ _ _ _ _ => pts_nil) (fun _ _ _ _ _ => (C8.pe_c c_is_heap hr (by decide) (by rfl) (pa_cons (pv 1) pa_nil)))) pa_nil)))))))
 (pss_one (L2N.ps_raise rfl (L2N.takes_of rfl rfl rfl rfl) (L2N.pmk_own PySem.F.excBase_ValueError TX.x_BadHeaps.xP TX.x_BadHeaps.gP TX.x_BadHeaps.kP (raises_own TX.x_BadHeaps.bP TX.x_BadHeaps.tP) (by exact rfl))))
 pss_nil)), ?_⟩
    have ty := dp_ty dp
    cases dp with
    | @lst a xs _ hL hx =>
    have lx := dp_len hx
    refine ⟨_, rfl, _, .ty "list", .type "list", .type "list", true, rfl, .ty "list", ty, kit_ty (by decide +kernel), true, rfl, iteF ?_⟩
    refine ⟨_, rfl, a, rfl, ⟨_, hL⟩, fun D nD => ?_⟩
    refine lc_list (K := K) (a := a) (xs := xs) (fun i H1 => Same H H1 ∧ H1 D = some (.lst (((ds.take i).map isHeapD).map V.bl))) ⟨same_new nD, by rw [upd_same]; rfl⟩ (fun i H1 _ p => p.1.seq hL) ?_ ?_
    · rintro i x H1 hi ⟨s1, e1⟩
      obtain ⟨d, hd, dx⟩ := dpAll_get hx hi
      have hil : i < ds.length := (List.getElem?_eq_some_iff.mp hd).1
      refine ⟨rfl, yesT ?_⟩
      refine ⟨x, rfl, x, d, rfl, dp_mono s1 dx, _, e1, ?_, same_mut s1 nD, ?_⟩
      · rw [List.length_map, List.length_map, List.length_take]
        exact Evl.sz_lt (by omega)
      · rw [upd_same, take_snoc hd, List.map_append, List.map_append]
        rfl
    · rintro H1 ⟨s1, e1⟩
      refine ⟨D, (ds.take xs.length).map isHeapD, rfl, SqL.of e1, _, rfl, ?_⟩
      rw [lx, List.take_length, List.all_map]
      have e : ds.all (id ∘ isHeapD) = ds.all isHeapD := rfl
      rw [e]
      cases c : ds.all isHeapD with
      | true => exact iteF (q1 c H1 s1)
      | false => exact iteT (q2 c H1 s1)
/-- what is no text -/
def NoT (K : PySem.W.Frag) (H : Hp) (v : V) : Prop := ∃ n, TyX K H v (.type n) ∧ kitB n "str" = some false
def spRead (K : PySem.W.Frag) (C : Addr) : Sp := fun vs H Q E => ∃ v, vs = [v] ∧ ((NoT K H v ∧ ∀ H', Same H H' → E (.ref C) none H') ∨
  ∃ t : Str, v = .str t ∧ Tx t ∧ (goodT t = true → ∀ H' p, Same H H' → H p = none → PL H' p (due t) → Q (.ref p) H') ∧ (goodT t = false → ∀ H', Same H H' → E (.ref C) none H'))
theorem good_num {t x : Str} {i : Nat} (h : goodT t = true) (hx : (wordsT t)[i]? = some x) : okN (plW x) = true ∧ okN (ctW x) = true := by
  have := (good_pos h x (List.mem_of_getElem? hx)).1
  unfold nbW at this
  rw [Bool.and_eq_true] at this
  exact this
theorem bad_num {t x : Str} {i : Nat} (hx : (wordsT t)[i]? = some x) (h : okN (plW x) = false ∨ okN (ctW x) = false) : goodT t = false := by
  cases c : goodT t with
  | false => rfl
  | true =>
    have := good_num c hx
    rcases h with h | h
    · rw [h] at this; cases this.1
    · rw [h] at this; cases this.2
/-- all words write numbers: what the check says is what the text is -/
theorem due_all {t : Str} (h : ∀ x ∈ wordsT t, nbW x = true) : ((due t).map pairD).all isHeapD = goodT t := by
  unfold due goodT
  rw [List.map_map, List.all_map]
  have key : ∀ l : List Str, (∀ x ∈ l, nbW x = true) → l.all (isHeapD ∘ pairD ∘ pairW) = l.all okWd := by
    intro l
    induction l with
    | nil => intro _; rfl
    | cons x l ih =>
      intro q
      rw [List.all_cons, List.all_cons, ih fun y m => q y (List.mem_cons_of_mem _ m)]
      have e : okWd x = decide (0 ≤ (pairW x).2) := by
        unfold okWd
        rw [q x List.mem_cons_self, Bool.true_and]
      rw [e]
      rfl
  exact key _ h
theorem calk_read (T : Top K mg) (TX : TopX K mg C1 C2 C3 C4) : CalK P w K mg base 4 "read" (spRead K C4) := by
  have cn_number_in : CalN P w K mg base 1 "number_in" (spNum C4) := caln_number_in T TX
  have cn_check_heaps : CalN P w K mg base 3 "check_heaps" (spCheckN K C2) := caln_check_heaps T TX
  refine T.d_read.calK sc_read (fun vs H Q E h => ?_) (fun f cdv A outer s H vs Q E hr h => ?_)
  · obtain ⟨v, rfl, _⟩ := h
    rfl
  · obtain ⟨v, rfl, h⟩ := h
    refine ⟨_, (pss_cons (ps_if (pt_not (pt_val (pe_callB call_isi (by rfl) T.m_isinstance (by decide +kernel) (pa_cons (pv 0) (pa_cons (pe_bltn (v := .ty "str") (by rfl) T.m_str (by decide +kernel) rfl) pa_nil)))))
 (pss_one (L2N.ps_raise rfl (takesN_K rfl rfl rfl rfl) (L2N.pmk_own PySem.F.excBase_ValueError TX.x_BadText.xP TX.x_BadText.gP TX.x_BadText.kP (raises_own TX.x_BadText.bP TX.x_BadText.tP) (by exact rfl))))
 pss_nil)
 (pss_cons (ps_if (pt_cmpR op_eq (pv 0) pe_str (nomark _))
 (pss_one (ps_ret (pe_lst pa_nil)))
 pss_nil)
 (pss_cons (ps_set (i := 1) sc_read.nd rfl (Or.inl rfl) (pe_lst pa_nil))
 (pss_cons (ps_for PassesOwn.leaving rfl (pi_list (pe_split (pv 0) pe_str)) (pg_name (i := 2) sc_read.nd rfl (Or.inl rfl))
 (pss_cons (ps_asg (pe_partition (pv 2) pe_str) (pg_tup rfl (pgs_cons (pg_name (i := 3) sc_read.nd rfl (Or.inl rfl)) (pgs_cons (pg_name (i := 4) sc_read.nd rfl (Or.inl rfl)) (pgs_cons (pg_name (i := 5) sc_read.nd rfl (Or.inl rfl)) pgs_nil)))))
 (pss_one (ps_expr (pe_bm PySem.F.plainAttrs_list PySem.F.slot_list_append PySem.F.type_list_append mt_append (pv 1) (pa_cons (pe_tup (pa_cons (pe_cn cn_number_in hr (by decide) (by rfl) (fun σ => L2N.passAt (takesN_K rfl rfl rfl rfl) σ) (pa_cons (pv 3) pa_nil)) (pa_cons (pe_cn cn_number_in hr (by decide) (by rfl) (fun σ => L2N.passAt (takesN_K rfl rfl rfl rfl) σ) (pa_cons (pv 5) pa_nil)) pa_nil))) pa_nil))))))
 (pss_cons (L2H.ps_try_onlyX (Wout := fun _ _ _ _ => False) (tb := fun W => tDrop (tCallS (spCheckN K C2) (WE W) (tCons (tVar 1) tNil))) (ts := fun _ _ _ _ _ H => E (.ref C4) none H) rfl rfl ⟨rfl, by decide, .inl TX.x_BadHeaps.gP⟩ (fun hd => L2H.passesAt_of rfl hd) takes0 (fun W pn xe tk tk2 _ => by exact pss_one (ps_expr (pe_cn cn_check_heaps hr (by decide) (by rfl) (fun σ => L2N.passAt tk σ) (pa_cons (pv 1) pa_nil)))) (fun a oe cls d pn hz hf tk hot => by exact pss_one (ps_raiseK (A0 := A.deeper (envOfC "read" (defScope st_read) s.heap.objs.size f cdv)) hot rfl rfl rfl rfl rfl (L2N.pmk_own PySem.F.excBase_ValueError TX.x_BadText.xP TX.x_BadText.gP TX.x_BadText.kP (raises_own TX.x_BadText.bP TX.x_BadText.tP) (by exact rfl)))))
 (pss_one (ps_ret (pv 1)))))))), ?_⟩
    rcases h with ⟨⟨n, ty, hn⟩, q⟩ | ⟨t, rfl, hT, q1, q2⟩
    · exact ⟨v, rfl, v, .ty "str", .type n, .type "str", false, rfl, .ty "str", ty, kit_ty hn, false, rfl, iteT (q H (Same.refl _))⟩
    · have hl := hT.len
      refine ⟨.str t, rfl, .str t, .ty "str", .type "str", .type "str", true, rfl, .ty "str", .base (.str t), kit_ty (by decide +kernel), true, rfl, iteF ?_⟩
      refine nx_mk ?_
      refine q_when (c := t = "-") (Evl.et_test (Evl.ev_op (Evl.ev_var rfl) Evl.ev_c rv_eqS)) (fun e H1 s1 => ?_) (fun e H1 s1 => ?_)
      · have ew : wordsT t = [] := if_pos e
        have eg : goodT t = true := by unfold goodT; rw [ew]; rfl
        have ed : due t = [] := by unfold due; rw [ew]; rfl
        rw [ed] at q1
        exact ⟨Evl.sz_of (Nat.zero_le _), fun p np => q1 eg _ p (s1.trans (same_new np)) (s1.free np) ⟨[], upd_same, .nil⟩⟩
      · have ew : wordsT t = Txt.split t " " := if_neg e
        refine ⟨Evl.sz_of (Nat.zero_le _), fun D nD => ?_⟩
        have nD0 := s1.free nD
        refine nx_mk ?_
        have sD := same_new (o := .lst []) nD
        refine ⟨_, rfl, ⟨t, rfl⟩, t, " ", rfl, rfl, rfl, by rw [sizeLine_eq]; omega, fun L nL => ?_⟩
        have sL := same_new (o := .lst ((Txt.split t " ").map V.str)) nL
        have neDL : L ≠ D := fun z => by rw [z, upd_same] at nL; cases nL
        refine ⟨L, rfl, ⟨_, SqL.of upd_same⟩, for_list (K := K) (a := L) (xs := (Txt.split t " ").map V.str) (fun i σ' H' => (∃ y2 y3 y4 y5, σ' = [some (.str t), some (.ref D), y2, y3, y4, y5]) ∧ Same H H' ∧ H' L = some (.lst ((Txt.split t " ").map V.str)) ∧ PL H' D (((Txt.split t " ").take i).map pairW) ∧ ∀ x ∈ (Txt.split t " ").take i, nbW x = true)
          ⟨⟨_, _, _, _, rfl⟩, (s1.trans sD).trans sL, upd_same, ⟨[], sL _ _ upd_same, .nil⟩, fun x m => (nomatch m)⟩ (fun i σ' H' _ p => SqL.of p.2.2.1) ?_ ?_⟩
        · rintro i v σ' H2 hi ⟨⟨y2, y3, y4, y5, rfl⟩, s2, eL, hD, hall⟩
          rw [List.getElem?_map] at hi
          cases hx : (Txt.split t " ")[i]? with
          | none => rw [hx] at hi; cases hi
          | some x =>
          rw [hx] at hi
          obtain rfl := Option.some.inj hi
          have hxw : (wordsT t)[i]? = some x := by rw [ew]; exact hx
          have lx := word_len hT (List.mem_of_getElem? hxw)
          have lp := part_len x
          refine ⟨_, rfl, ⟨x, rfl⟩, x, ":", rfl, rfl, rfl, Evl.sz_of (by omega), fun p np => ?_⟩
          have sp := same_new (o := .tup [.str (Txt.partition x ":").1, .str (Txt.partition x ":").2.1, .str (Txt.partition x ":").2.2]) np
          refine ⟨p, _, rfl, SqT.of upd_same, rfl, _, _, rfl, _, _, rfl, _, _, rfl, rfl, ?_⟩
          refine nx_mk ?_
          obtain ⟨xs, eD, ps⟩ := hD.mono sp
          have lD := pr_len ps
          refine ⟨_, rfl, .inl ⟨rfl, _, SqL.of eD⟩, ?_⟩
          have s02 := s2.trans sp
          refine ⟨_, rfl, plW x, rfl, by omega, fun g1 H3 s3 => ?_, fun g1 H3 s3 => q2 (bad_num hxw (.inl g1)) H3 (s02.trans s3)⟩
          refine ⟨_, rfl, ctW x, rfl, by omega, fun g2 H4 s4 => ?_, fun g2 H4 s4 => q2 (bad_num hxw (.inr g2)) H4 ((s02.trans s3).trans s4)⟩
          have s24 := s3.trans s4
          refine ⟨(by show 2 ≤ sizeLine; decide), fun u nu => ?_⟩
          have su := same_new (o := .tup [.int (valN (plW x)), .int (valN (ctW x))]) nu
          have hlen : (((Txt.split t " ").take i).map pairW).length ≤ 901 := by
            have := words_len hT
            rw [ew] at this
            rw [List.length_map, List.length_take]
            omega
          have eD5 := su _ _ (s24 _ _ eD)
          refine ⟨D, xs, _, rfl, rfl, eD5, Evl.sz_lt (by omega), ?_⟩
          have m5 := tp_mut (o := .lst (xs ++ [.ref u])) eD5
          refine ⟨⟨_, _, _, _, rfl⟩, same_mut ((s02.trans s24).trans su) nD0, ?_, ⟨_, upd_same, ?_⟩, ?_⟩
          · rw [upd_ne neDL]
            exact su _ _ (s24 _ _ (sp _ _ eL))
          · rw [take_snoc hx, List.map_append]
            refine pr_snoc ((ps.mono (same_tp (s24.trans su))).mono m5) ⟨u, rfl, m5 _ _ upd_same⟩
          · intro y m
            rw [take_snoc hx] at m
            rcases List.mem_append.mp m with m | m
            · exact hall y m
            · rw [List.mem_singleton.mp m]
              unfold nbW
              rw [g1, g2]
              rfl
        · rintro σ' H2 ⟨⟨y2, y3, y4, y5, rfl⟩, s2, eL, hD, hall⟩
          rw [List.length_map, List.take_length] at hD hall
          rw [← ew] at hD hall
          have hlen : (due t).length ≤ 901 := by
            unfold due
            rw [List.length_map]
            exact words_len hT
          have hd := due_all hall
          refine nx_mk ?_
          refine ⟨_, rfl, _, (due t).map pairD, rfl, PL.dp hD, by rw [List.length_map]; omega, fun g H3 s3 => ?_, fun g H3 s3 => ⟨true, PySem.W.exm_ref TX.x_BadHeaps.bP TX.x_BadHeaps.dP TX.x_BadHeaps.tP TX.s_BadHeaps_BadHeaps, fun _ a na => ?_, fun z => nomatch z⟩⟩
          · rw [hd] at g
            exact ⟨_, rfl, q1 g H3 D (s2.trans s3) nD0 (hD.mono s3)⟩
          · rw [hd] at g
            exact q2 g H3 (s2.trans s3)
end
end Wk
/-! law 6: _law_in, _law_refused, _law_right -/
namespace Wk
open PySem PySem.Spec PyProof.Rows L2 Spr TL
section
variable {K : PySem.W.Frag} {σ : L2.St} {H : Hp} {te ta tb tl : TE} {tt : TT}
theorem el_if {b : Bool} {xs : List V} (h : Evl.EvT tt σ H b) (h1 : b = true → Evl.EvL ta σ H xs) (h2 : b = false → Evl.EvL tb σ H xs) : Evl.EvL (tIf tt ta tb) σ H xs := fun H0 s0 Q q => h H0 s0 _ fun H1 s1 => by
  cases b with
  | true => exact iteT (h1 rfl H1 (Same.trans s0 s1) Q fun p H2 np s2 ep => q p H2 (Same.free s1 np) (Same.trans s1 s2) ep)
  | false => exact iteF (h2 rfl H1 (Same.trans s0 s1) Q fun p H2 np s2 ep => q p H2 (Same.free s1 np) (Same.trans s1 s2) ep)
theorem el_split {a b : Str} (h1 : Evl.Ev ta σ H (.str a)) (h2 : Evl.Ev tb σ H (.str b)) (hb : (b.length == 0) = false) (hl : a.length ≤ 100000) :
    Evl.EvL (tM1 (fun x xs H Q => ∃ a b, x = V.str a ∧ xs = [V.str b] ∧ (b.length == 0) = false ∧ a.length + 2 ≤ sizeLine ∧ rNewStrs (Txt.split a b) H Q) ta tb) σ H ((Txt.split a b).map V.str) := fun H0 s0 Q q =>
  h1 H0 s0 _ fun H1 s1 => ⟨⟨a, rfl⟩, h2 H1 (Same.trans s0 s1) _ fun H2 s2 => ⟨a, b, rfl, rfl, hb, by rw [sizeLine_eq]; omega, fun p np => q p _ (Same.free (Same.trans s1 s2) np) (Same.trans (Same.trans s1 s2) (same_new np)) upd_same⟩⟩
theorem ev_anyV {i : Nat} {p : Addr} {bs : List Bool} (hi : σ[i]? = some (some (.ref p))) (e : H p = some (.lst (bs.map V.bl))) : Evl.Ev (tCB (rAny K) (tCons (tVar i) tNil)) σ H (.bl (bs.any id)) := fun H0 s0 Q q =>
  ⟨_, hi, p, bs, rfl, SqL.of (s0 _ _ e), q H0 (Evl.Ex.refl _)⟩
theorem ev_isE {i : Nat} {a D : Addr} {c : V} {cv : Value} {b : Bool} (hi : σ[i]? = some (some (.ref a))) (hc : ∀ u, RelV c u → u = cv) (hk : PySem.W.kitOne K (.ref D) cv = some b) : Evl.Ev (tCB (rIsE K D a) (tCons (tVar i) (tCons (tC c) tNil))) σ H (.bl b) := fun H0 s0 Q q =>
  ⟨_, hi, c, cv, b, rfl, hc, hk, q H0 (Evl.Ex.refl _)⟩
theorem ev_isL {i : Nat} {a : Addr} {xs : List V} (hi : σ[i]? = some (some (.ref a))) (e : H a = some (.lst xs)) : Evl.Ev (tCB (rIsi K) (tCons (tVar i) (tCons (tC (.ty "list")) tNil))) σ H (.bl true) := fun H0 s0 Q q =>
  ⟨_, hi, .ref a, .ty "list", .type "list", .type "list", true, rfl, .ty "list", .base (.lst (s0 _ _ e)), kit_ty (by decide +kernel), q H0 (Evl.Ex.refl _)⟩
theorem ev_written {hs : List I2} (h : EvQ ta σ H hs) (hb : HB hs) (hok : hs.all okW = true) : Evl.Ev (tCall spWritten [] C8.E0 (tCons ta tNil)) σ H (.str (wText hs)) := fun H0 s0 Q q =>
  h H0 s0 _ fun a H1 s1 ha => ⟨a, hs, rfl, ha, hb, hok, fun H' s' => q H' (Same.trans s1 s')⟩
theorem rv_isN {v : V} : Evl.RV (fun x y H Q => y = V.non ∧ Q (V.bl (decide (x = V.non))) H) v .non H (.bl (decide (v = .non))) := fun H1 _ _ q => ⟨rfl, q H1 (Evl.Ex.refl H1)⟩
end
theorem flat_num (x : Str) : flatV (numV x) = true := by
  unfold numV
  split <;> rfl
theorem num_in (x : Str) : eqV (numV x) .non = !okN x := by
  unfold numV
  cases okN x <;> rfl
theorem in_pair (x : Str) : inV .non [numV (plW x), numV (ctW x)] = !nbW x := by
  unfold inV nbW
  rw [List.any_cons, List.any_cons, List.any_nil, num_in, num_in, Bool.or_false, Bool.not_and]
section
variable {P : Program} {w : World} {K : PySem.W.Frag} {mg : Str → Option Value} {base : Heap} {C1 C2 C3 C4 : Addr}
def spIn : Sp := fun vs H Q _ => ∃ t : Str, vs = [.str t] ∧ Tx t ∧ (goodT t = true → ∀ H' p, Same H H' → H p = none → PL H' p (due t) → Q (.ref p) H') ∧ (goodT t = false → ∀ H', Same H H' → Q .non H')
theorem cal_law_in (T : Top K mg) : C8.Cal P w K mg base 2 "_law_in" spIn [] := by
  have c__law_number : C8.Cal P w K mg base 1 "_law_number" spLnum [] := cal_law_number T
  refine T.d__law_in.cal sc__law_in (fun vs H Q E h => ?_) (fun f cdv A outer s H vs Q E hr h => ?_)
  · obtain ⟨t, rfl, _⟩ := h
    rfl
  · obtain ⟨t, rfl, hT, q1, q2⟩ := h
    refine ⟨_, (pss_cons (ps_set (i := 1) sc__law_in.nd rfl (Or.inl rfl) (pe_lst pa_nil))
 (pss_cons (ps_for PassesOwn.never rfl (pi_list (pe_ifExp (pt_cmpR op_ne (pv 0) pe_str (nomark _)) (pe_split (pv 0) pe_str) (pe_lst pa_nil))) (pg_name (i := 2) sc__law_in.nd rfl (Or.inl rfl))
 (pss_cons (ps_asg (pe_partition (pv 2) pe_str) (pg_tup rfl (pgs_cons (pg_name (i := 3) sc__law_in.nd rfl (Or.inl rfl)) (pgs_cons (pg_name (i := 4) sc__law_in.nd rfl (Or.inl rfl)) (pgs_cons (pg_name (i := 5) sc__law_in.nd rfl (Or.inl rfl)) pgs_nil)))))
 (pss_cons (ps_set (i := 6) sc__law_in.nd rfl (Or.inl rfl) (pe_tup (pa_cons (C8.pe_c c__law_number hr (by decide) (by rfl) (pa_cons (pv 3) pa_nil)) (pa_cons (C8.pe_c c__law_number hr (by decide) (by rfl) (pa_cons (pv 5) pa_nil)) pa_nil))))
 (pss_cons (ps_if (PW.pt (pw_or (pt_cmpR op_in_seq pe_non (pv 6) (by rfl)) (pw_or1 (pt_cmpR op_lt (pe_ix ix_tup (pv 6) pe_int (fun _ _ => rfl)) pe_int (nomark _)))))
 (pss_one (ps_ret pe_non))
 pss_nil)
 (pss_one (ps_expr (pe_bm PySem.F.plainAttrs_list PySem.F.slot_list_append PySem.F.type_list_append mt_append (pv 1) (pa_cons (pv 6) pa_nil))))))))
 (pss_one (ps_ret (pv 1))))), ?_⟩
    have hl := hT.len
    refine ⟨Evl.sz_of (Nat.zero_le _), fun D nD => ?_⟩
    refine nx_mk ?_
    have sD := same_new (o := .lst []) nD
    refine el_if (b := !decide (t = "-")) (xs := (wordsT t).map V.str) (Evl.et_test (Evl.ev_op (Evl.ev_var rfl) Evl.ev_c rv_neS)) (fun e => ?_) (fun e => ?_) _ (Same.refl _) _ fun L H1 nL s1 eL => ?_
    · have : wordsT t = Txt.split t " " := if_neg (by simpa using e)
      rw [this]
      exact el_split (Evl.ev_var rfl) Evl.ev_c rfl (by omega)
    · have : wordsT t = [] := if_pos (by simpa using e)
      rw [this]
      exact Evl.el_lst Evl.ea_nil (Nat.zero_le _)
    have neDL : L ≠ D := fun z => by rw [z, upd_same] at nL; cases nL
    refine ⟨L, rfl, ⟨_, SqL.of eL⟩, for_list (K := K) (a := L) (xs := (wordsT t).map V.str) (fun i σ' H' => (∃ y2 y3 y4 y5 y6, σ' = [some (.str t), some (.ref D), y2, y3, y4, y5, y6]) ∧ Same H H' ∧ H' L = some (.lst ((wordsT t).map V.str)) ∧ PL H' D (((wordsT t).take i).map pairW) ∧ ∀ x ∈ (wordsT t).take i, okWd x = true)
      ⟨⟨_, _, _, _, _, rfl⟩, sD.trans s1, eL, ⟨[], s1 _ _ upd_same, .nil⟩, fun x m => (nomatch m)⟩ (fun i σ' H' _ p => SqL.of p.2.2.1) ?_ ?_⟩
    · rintro i v σ' H2 hi ⟨⟨y2, y3, y4, y5, y6, rfl⟩, s2, eL2, hD, hall⟩
      rw [List.getElem?_map] at hi
      cases hx : (wordsT t)[i]? with
      | none => rw [hx] at hi; cases hi
      | some x =>
      rw [hx] at hi
      obtain rfl := Option.some.inj hi
      have lx := word_len hT (List.mem_of_getElem? hx)
      have lp := part_len x
      refine ⟨_, rfl, ⟨x, rfl⟩, x, ":", rfl, rfl, rfl, Evl.sz_of (by omega), fun p np => ?_⟩
      have sp := same_new (o := .tup [.str (Txt.partition x ":").1, .str (Txt.partition x ":").2.1, .str (Txt.partition x ":").2.2]) np
      refine ⟨p, _, rfl, SqT.of upd_same, rfl, _, _, rfl, _, _, rfl, _, _, rfl, rfl, ?_⟩
      refine nx_mk ?_
      have s02 := s2.trans sp
      refine ⟨_, rfl, plW x, rfl, by omega, fun H3 s3 => ⟨_, rfl, ctW x, rfl, by omega, fun H4 s4 => ⟨(by show 2 ≤ sizeLine; decide), fun u nu => ?_⟩⟩⟩
      have s24 := s3.trans s4
      have su := same_new (o := .tup [numV (plW x), numV (ctW x)]) nu
      have s04 := (s02.trans s24).trans su
      obtain ⟨xs, eD, ps⟩ := hD.mono ((sp.trans s24).trans su)
      have lD := pr_len ps
      have hlen : (((wordsT t).take i).map pairW).length ≤ 901 := by
        have := words_len hT
        rw [List.length_map, List.length_take]
        omega
      have eu : upd H4 u (.tup [numV (plW x), numV (ctW x)]) u = some (.tup [numV (plW x), numV (ctW x)]) := upd_same
      generalize upd H4 u (.tup [numV (plW x), numV (ctW x)]) = H5 at *
      refine nx_mk ?_
      refine q_whenb (b := !okWd x) (Evl.et_is (Evl.et_or (a := inV .non [numV (plW x), numV (ctW x)]) (b := decide ((pairW x).2 < 0)) (Evl.et_test (Evl.ev_op Evl.ev_c (Evl.ev_var rfl) (Evl.rv_isT (SqT.of eu) rfl (by rw [List.all_cons, List.all_cons, flat_num, flat_num]; rfl)))) fun ha => ?_) ?_) (fun e H6 s6 => ?_) (fun e H6 s6 => ?_)
      · rw [in_pair, Bool.not_eq_false'] at ha
        have en : numV (ctW x) = .int (pairW x).2 := if_pos (by
          unfold nbW at ha
          rw [Bool.and_eq_true] at ha
          exact ha.2)
        refine Evl.et_test (Evl.ev_op (Evl.ev_op (Evl.ev_var rfl) Evl.ev_c (Evl.rv_ixT (v := .int (pairW x).2) (SqT.of eu) (by rw [en]; exact atI_nat (j := 1) rfl))) Evl.ev_c Evl.rv_I0)
      · rw [in_pair]
        unfold okWd
        rw [Bool.not_and, show decide ((pairW x).2 < 0) = !decide (0 ≤ (pairW x).2) from by
          by_cases c : 0 ≤ (pairW x).2
          · rw [decide_eq_true c, decide_eq_false (by omega)]; rfl
          · rw [decide_eq_false c, decide_eq_true (by omega)]; rfl]
      · rw [Bool.not_eq_true'] at e
        refine q2 ?_ H6 (s04.trans s6)
        cases c : goodT t with
        | false => rfl
        | true =>
          have := List.all_eq_true.mp c x (List.mem_of_getElem? hx)
          rw [e] at this
          cases this
      · rw [Bool.not_eq_false'] at e
        have hn : nbW x = true ∧ 0 ≤ (pairW x).2 := by
          unfold okWd at e
          rw [Bool.and_eq_true, decide_eq_true_iff] at e
          exact e
        have hn1 := hn.1
        unfold nbW at hn1
        rw [Bool.and_eq_true] at hn1
        have e1 : numV (plW x) = .int (pairW x).1 := if_pos hn1.1
        have e2 : numV (ctW x) = .int (pairW x).2 := if_pos hn1.2
        rw [e1, e2] at eu
        have eD6 := s6 _ _ eD
        refine ⟨_, rfl, .inl ⟨rfl, _, SqL.of eD6⟩, _, rfl, D, xs, _, rfl, rfl, eD6, Evl.sz_lt (by omega), ?_⟩
        have m6 := tp_mut (o := .lst (xs ++ [.ref u])) eD6
        refine ⟨⟨_, _, _, _, _, rfl⟩, same_mut (s04.trans s6) nD, ?_, ⟨_, upd_same, ?_⟩, ?_⟩
        · rw [upd_ne neDL]
          exact s6 _ _ (su _ _ (s24 _ _ (sp _ _ eL2)))
        · rw [take_snoc hx, List.map_append]
          exact pr_snoc ((ps.mono (same_tp s6)).mono m6) ⟨u, rfl, m6 _ _ (s6 _ _ eu)⟩
        · intro y m
          rw [take_snoc hx] at m
          rcases List.mem_append.mp m with m | m
          · exact hall y m
          · rw [List.mem_singleton.mp m]
            exact e
    · rintro σ' H2 ⟨⟨y2, y3, y4, y5, y6, rfl⟩, s2, eL2, hD, hall⟩
      rw [List.length_map, List.take_length] at hD hall
      exact ⟨_, rfl, q1 (List.all_eq_true.mpr hall) H2 D s2 nD hD⟩
end
end Wk
/-! law 6: _law_refused, _law_right -/
namespace Wk
open PySem PySem.Spec PyProof.Rows L2 Spr TL
theorem pss_had {X : Cx} {b : List Stmt} {cls : Value} {d : Option Addr} {T : Addr → TS} (h : ∀ Dc, (cls = .ref Dc ∧ d = none ∧ ExcC X.K Dc) → PSs X b (T Dc)) : PSs X b (fun D σ H => ∃ Dc, (cls = .ref Dc ∧ d = none ∧ ExcC X.K Dc) ∧ T Dc D σ H) :=
  ⟨fun pins s σ H D I ⟨Dc, hh, q⟩ => (h Dc hh).run pins s σ H D I q⟩
theorem had_z {Dc : Addr} {cls : Value} {d : Option Addr} {oe : Obj} {Y : Prop} (h : cls = .ref Dc ∧ d = none ∧ Y) (z : Zc cls d oe) : Zc (.ref Dc) none oe := by
  rw [← h.1, ← h.2.1]
  exact z
section
variable {P : Program} {w : World} {K : PySem.W.Frag} {mg : Str → Option Value} {base : Heap} {C1 C2 C3 C4 : Addr}
theorem exc_c {x : Str} {C : Addr} (e : ExcAt K mg x C) (TX : TopX K mg C1 C2 C3 C4) : ExcC K C := ⟨e.hg, e.hk, e.bP, e.dP, e.ha, TX.sN, TX.sT, e.hm⟩
theorem kit_own {C D : Addr} {b : Bool} {x : Str} (e : ExcAt K mg x D) (h : PySem.W.subIn K (.ref C) (.ref D) = some b) (hb : C = D → b = true) : PySem.W.kitOne K (.ref C) (.ref D) = some b := by
  unfold PySem.W.kitOne
  by_cases c : C = D
  · rw [if_pos (by rw [c]; simp), hb c]
  · rw [if_neg (by simpa using c)]
    show (if ((PySem.W.clsIn K D).isSome && PySem.W.typeIn K (.ref D) == some (.type "type")) = true then _ else _) = _
    have e1 : (PySem.W.clsIn K D).isSome = true := e.iP
    rw [e1, e.tP, h]
    rfl
theorem kit_val {C : Addr} (h : PySem.W.subIn K (.ref C) (.type "ValueError") = some true) : PySem.W.kitOne K (.ref C) (.type "ValueError") = some true := by
  unfold PySem.W.kitOne
  rw [if_neg (by simp)]
  show (if PySem.W.kitMeta "ValueError" = true then PySem.W.subIn K (.ref C) (.type "ValueError") else none) = _
  rw [if_pos (by decide +kernel), h]
theorem sub_ne {C D : Addr} (h1 : PySem.W.subIn K (.ref C) (.ref C) = some true) (h2 : PySem.W.subIn K (.ref C) (.ref D) = some false) : C = D → false = true := fun e => by
  rw [← e, h1] at h2
  cases h2
/-- what is asked of a caught error of BadText -/
structure Ask (K : PySem.W.Frag) (C1 C2 C3 C4 : Addr) : Prop where
  c : ExcC K C4
  x : PySem.W.exmOne K (.ref C4) (.ref C1) = some true
  a2 : PySem.W.kitOne K (.ref C4) (.ref C2) = some false
  a3 : PySem.W.kitOne K (.ref C4) (.ref C3) = some false
  a4 : PySem.W.kitOne K (.ref C4) (.ref C4) = some true
  av : PySem.W.kitOne K (.ref C4) (.type "ValueError") = some true
theorem ask_of (TX : TopX K mg C1 C2 C3 C4) : Ask K C1 C2 C3 C4 :=
  ⟨exc_c TX.x_BadText TX, PySem.W.exm_ref TX.x_HeapError.bP TX.x_HeapError.dP TX.x_HeapError.tP TX.s_BadText_HeapError, kit_own TX.x_BadHeaps TX.s_BadText_BadHeaps (sub_ne TX.s_BadText_BadText TX.s_BadText_BadHeaps),
    kit_own TX.x_BadPlace TX.s_BadText_BadPlace (sub_ne TX.s_BadText_BadText TX.s_BadText_BadPlace), kit_own TX.x_BadText TX.s_BadText_BadText (fun _ => rfl), kit_val TX.x_BadText.vP⟩
/-- the suite: the caught error is at a, of the class Dc -/
def tSu (K : PySem.W.Frag) (C2 C3 C4 Dc a : Addr) : TS :=
  tSeq (tAsg (tLst (tCons (tCB (rIsE K Dc a) (tCons (tVar 1) (tCons (tC (.ref C2)) tNil))) (tCons (tCB (rIsE K Dc a) (tCons (tVar 1) (tCons (tC (.ref C3)) tNil))) tNil))) (gName 2))
    (tRet (tAndV (tCB (rIsE K Dc a) (tCons (tVar 1) (tCons (tC (.ref C4)) tNil))) (tAndV (tCB (rIsE K Dc a) (tCons (tVar 1) (tCons (tC (.ty "ValueError")) tNil))) (tNotV (tCB (rAny K) (tCons (tVar 2) tNil))))))
def tsRef (K : PySem.W.Frag) (C2 C3 C4 : Addr) : Addr → Value → Option Addr → TS := fun a cls d Dn σ H => ∃ Dc, (cls = .ref Dc ∧ d = none ∧ ExcC K Dc) ∧ tSu K C2 C3 C4 Dc a Dn σ H
def spRefused (K : PySem.W.Frag) : Sp := fun vs H Q _ => ∃ v, vs = [v] ∧ (NoT K H v ∨ ∃ t : Str, v = .str t ∧ Tx t ∧ goodT t = false) ∧ ∀ H', Same H H' → Q (.bl true) H'
theorem cal_law_refused (T : Top K mg) (TX : TopX K mg C1 C2 C3 C4) : C8.Cal P w K mg base 5 "_law_refused" (spRefused K) [] := by
  have ck_read : CalK P w K mg base 4 "read" (spRead K C4) := calk_read T TX
  have k := ask_of TX
  refine T.d__law_refused.cal sc__law_refused (fun vs H Q E h => ?_) (fun f cdv A outer s H vs Q E hr h => ?_)
  · obtain ⟨v, rfl, _⟩ := h
    rfl
  · obtain ⟨v, rfl, h, q⟩ := h
    refine ⟨_, (pss_cons (ps_try_asK (i := 1) (tb := fun W => tDrop (tCallS (spRead K C4) (WE W) (tCons (tVar 0) tNil))) (ts := tsRef K C2 C3 C4) rfl rfl sc__law_refused.nd rfl rfl ⟨rfl, by decide, .inl TX.x_HeapError.gP⟩ (fun W pn xe tk => by exact (pss_one (ps_expr (pe_ck ck_read hr (by decide) (by rfl) tk (pa_cons (pv 0) pa_nil))))) (fun a oe cls d pn hz hf hk => pss_had fun Dc h => by exact (pss_cons (ps_set (i := 2) sc__law_refused.nd rfl (Or.inl rfl) (pe_lst (pa_cons (pe_callB (call_isE h.2.2 (had_z h hz) hf) (by rfl) T.m_isinstance (by decide +kernel) (pa_cons (pv 1) (pa_cons (pe_glob (v := .ref _) rfl TX.x_BadHeaps.gP rfl) pa_nil))) (pa_cons (pe_callB (call_isE h.2.2 (had_z h hz) hf) (by rfl) T.m_isinstance (by decide +kernel) (pa_cons (pv 1) (pa_cons (pe_glob (v := .ref _) rfl TX.x_BadPlace.gP rfl) pa_nil))) pa_nil))))
 (pss_one (ps_ret (pe_and (pe_callB (call_isE h.2.2 (had_z h hz) hf) (by rfl) T.m_isinstance (by decide +kernel) (pa_cons (pv 1) (pa_cons (pe_glob (v := .ref _) rfl TX.x_BadText.gP rfl) pa_nil))) (pe_and (pe_callB (call_isE h.2.2 (had_z h hz) hf) (by rfl) T.m_isinstance (by decide +kernel) (pa_cons (pv 1) (pa_cons (pe_bltn (v := .ty "ValueError") (by rfl) T.m_ValueError (by decide +kernel) rfl) pa_nil))) (pe_one (pe_not (pe_callB (cr_anyK hk) (by rfl) T.m_any (by decide +kernel) (pa_cons (pv 2) pa_nil)))))))))))
 (pss_one (ps_ret pe_bl))), ?_⟩
    have key : ∀ (D : Ends) (σ : L2.St) (H1 : Hp), Same H H1 → σ = [some v, none, none] → D.rt = Q → wK K (.ref C1) 1 (tsRef K C2 C3 C4) D (.ref C4) none σ H1 := fun D σ H1 s1 eσ eD => by
      subst eσ
      refine ⟨k.x, fun a na => ⟨C4, ⟨rfl, rfl, k.c⟩, ?_⟩⟩
      refine ⟨_, rfl, _, .ref C2, false, rfl, fun u r => r, k.a2, _, rfl, _, .ref C3, false, rfl, fun u r => r, k.a3, (by show 2 ≤ sizeLine; decide), fun p np => ?_⟩
      have s2 := same_new (o := .lst [.bl false, .bl false]) np
      refine ret_v (v := .bl true) (Evl.ev_is (Evl.ev_andV (a := true) (ev_isE (c := .ref C4) (cv := .ref C4) rfl (fun u r => r) k.a4) fun _ => Evl.ev_andV (a := true) (ev_isE (c := .ty "ValueError") (cv := .type "ValueError") rfl (fun u r => r) k.av) fun _ => Evl.ev_notV (a := false) (ev_anyV (bs := [false, false]) rfl upd_same)) rfl) fun H2 s3 => ?_
      show D.rt _ _
      rw [eD]
      exact q H2 ((s1.trans s2).trans s3)
    refine ⟨v, rfl, v, rfl, ?_⟩
    rcases h with n | ⟨t, rfl, hT, g⟩
    · exact .inl ⟨n, fun H1 s1 => key _ _ _ s1 rfl rfl⟩
    · exact .inr ⟨t, rfl, hT, fun z => Bool.noConfusion (g.symm.trans z), fun _ H1 s1 => key _ _ _ s1 rfl rfl⟩
/-- read(text), a good one -/
theorem evn_read {σ : L2.St} {H : Hp} {t : Str} {i : Nat} (hi : σ[i]? = some (some (.str t))) (hT : Tx t) (g : goodT t = true) : EvN (tCallS (spRead K C4) (fun _ => C8.E0) (tCons (tVar i) tNil)) σ H (due t) := fun H0 s0 Q q =>
  ⟨_, hi, .str t, rfl, .inr ⟨t, rfl, hT, fun _ H1 p s1 np hp => q p H1 np s1 hp, fun z => Bool.noConfusion (g.symm.trans z)⟩⟩
def spRight : Sp := fun vs H Q _ => ∃ t : Str, vs = [.str t] ∧ Tx t ∧ ∀ H', Same H H' → Q (.bl true) H'
theorem cal_law_right {tM : Tok} (T : Top K mg) (TX : TopX K mg C1 C2 C3 C4) (gM : mg "MOST" = some (.int 1000000000000000000000000000000000000000000000000000000000000 tM)) : C8.Cal P w K mg base 6 "_law_right" spRight [] := by
  have ck_read : CalK P w K mg base 4 "read" (spRead K C4) := calk_read T TX
  have c__law_in : C8.Cal P w K mg base 2 "_law_in" spIn [] := cal_law_in T
  have c__law_refused : C8.Cal P w K mg base 5 "_law_refused" (spRefused K) [] := cal_law_refused T TX
  have c_written : C8.Cal P w K mg base 4 "written" spWritten [] := cal_written T gM
  refine T.d__law_right.cal sc__law_right (fun vs H Q E h => ?_) (fun f cdv A outer s H vs Q E hr h => ?_)
  · obtain ⟨t, rfl, _⟩ := h
    rfl
  · obtain ⟨t, rfl, hT, q⟩ := h
    refine ⟨_, (pss_cons (ps_set (i := 1) sc__law_right.nd rfl (Or.inl rfl) (C8.pe_c c__law_in hr (by decide) (by rfl) (pa_cons (pv 0) pa_nil)))
 (pss_cons (ps_if (pt_cmpR op_isN (pv 1) pe_non (nomark _))
 (pss_one (ps_ret (C8.pe_c c__law_refused hr (by decide) (by rfl) (pa_cons (pv 0) pa_nil))))
 pss_nil)
 (pss_cons (ps_set (i := 2) sc__law_right.nd rfl (Or.inl rfl) (pe_ck (E := fun _ => C8.E0) ck_read hr (by decide) (by rfl) (fun σ => pass0K σ) (pa_cons (pv 0) pa_nil)))
 (pss_cons (ps_if (PW.pt (pw_or (pt_not (pt_val (pe_callB call_isi (by rfl) T.m_isinstance (by decide +kernel) (pa_cons (pv 2) (pa_cons (pe_bltn (v := .ty "list") (by rfl) T.m_list (by decide +kernel) rfl) pa_nil))))) (pw_or (pt_cmpR (op_neD hr.units) (pv 2) (pv 1) (nomark _)) (pw_or1 (pt_cmpR op_ne (C8.pe_c c_written hr (by decide) (by rfl) (pa_cons (pv 2) pa_nil)) (pv 0) (nomark _))))))
 (pss_one (ps_ret pe_bl))
 pss_nil)
 (pss_cons (ps_expr (pe_bm PySem.F.plainAttrs_list PySem.F.slot_list_append PySem.F.type_list_append mt_append (pv 2) (pa_cons (pe_tup (pa_cons pe_int (pa_cons pe_int pa_nil))) pa_nil)))
 (pss_one (ps_ret (pe_cmpR (op_eqD hr.units) (pe_ck (E := fun _ => C8.E0) ck_read hr (by decide) (by rfl) (fun σ => pass0K σ) (pa_cons (pv 0) pa_nil)) (pv 1) (nomark _))))))))), ?_⟩
    cases g : goodT t with
    | false =>
      refine ⟨_, rfl, t, rfl, hT, fun z => Bool.noConfusion (g.symm.trans z), fun _ H1 s1 => ?_⟩
      refine nx_mk ?_
      refine q_whenb (b := true) (Evl.et_test (Evl.ev_op (Evl.ev_var rfl) Evl.ev_c rv_isN)) (fun _ H2 s2 => ?_) (fun z => nomatch z)
      exact ⟨_, rfl, _, rfl, .inr ⟨t, rfl, hT, g⟩, fun H3 s3 => q H3 ((s1.trans s2).trans s3)⟩
    | true =>
      have hb := due_hb hT g
      refine ⟨_, rfl, t, rfl, hT, fun _ H1 p s1 np hp => ?_, fun z => Bool.noConfusion (g.symm.trans z)⟩
      refine nx_mk ?_
      refine q_whenb (b := false) (Evl.et_test (Evl.ev_op (Evl.ev_var rfl) Evl.ev_c rv_isN)) (fun z => nomatch z) (fun _ H2 s2 => ?_)
      refine q_n (evn_read rfl hT g) fun r H3 nr s3 hr3 => ?_
      have hp3 := hp.mono (s2.trans s3)
      obtain ⟨xs, er, ps⟩ := id hr3
      refine q_whenb (b := false) (Evl.et_is (Evl.et_or (Evl.et_not (Evl.et_B (ev_isL rfl er))) fun _ => Evl.et_or (Evl.et_test (ev_neQ (evq_var rfl hr3) (evq_var rfl hp3))) fun _ => Evl.et_test (Evl.ev_op (ev_written (evq_var rfl hr3) hb (due_ok g)) (Evl.ev_var rfl) rv_neS)) ?_) (fun z => nomatch z) (fun _ H4 s4 => ?_)
      · rw [wText_back g, decide_eq_true rfl, decide_eq_true rfl]
        rfl
      have er4 := s4 _ _ er
      refine ⟨_, rfl, .inl ⟨rfl, _, SqL.of er4⟩, (by show 2 ≤ sizeLine; decide), fun u nu => ?_⟩
      have su := same_new (o := .tup [.int 0, .int 0]) nu
      have er5 := su _ _ er4
      have ll : xs.length ≤ 1000 := by rw [pr_len ps]; exact hb.len
      refine ⟨r, xs, _, rfl, rfl, er5, Evl.sz_lt (by omega), ?_⟩
      have m5 := same_mut (o := .lst (xs ++ [.ref u])) ((s3.trans s4).trans su) nr
      have hp5 := (hp.mono s2).mono m5
      refine nx_mk ?_
      refine ret_v (v := .bl true) (Evl.ev_is (ev_eqQ (evn_read rfl hT g).q (evq_var rfl hp5)) (by rw [decide_eq_true rfl])) fun H6 s6 => q H6 (((s1.trans s2).trans m5).trans s6)
end
end Wk
/-! law 6: _law_few -/
namespace Wk
open PySem PySem.Spec PyProof.Rows L2 Spr TL
/-- how long, how many blanks -/
structure Sm (n c : Nat) (t : Str) : Prop where
  len : t.length ≤ n
  spc : (tl t).count 32 ≤ c
theorem Sm.app {n c m d : Nat} {a b : Str} (h : Sm n c a) (g : Sm m d b) : Sm (n + m) (c + d) (a ++ b) := by
  have h1 := h.len
  have h2 := h.spc
  have g1 := g.len
  have g2 := g.spc
  refine ⟨by rw [str_len_app]; omega, ?_⟩
  rw [tl_append, List.count_append]
  omega
theorem Sm.tx {n c : Nat} {t : Str} (h : Sm n c t) (hn : n ≤ 50000) (hc : c ≤ 900) : Tx t := ⟨Nat.le_trans h.len hn, Nat.le_trans h.spc hc⟩
theorem fold_count (a : Array Nat) : ∀ (n : Nat) (b : Array Nat), ((List.replicate n a).foldl (· ++ ·) b).toList.count 32 = b.toList.count 32 + n * a.toList.count 32
  | 0, b => by simp
  | n + 1, b => by
    rw [List.replicate_succ, List.foldl_cons, fold_count a n (b ++ a), Array.toList_append, List.count_append, Nat.succ_mul]
    omega
theorem sm_nines (n : Nat) : Sm n 0 (repS "9" n) := by
  have e1 : ("9" : Str).length = 1 := rfl
  refine ⟨by rw [repS_len, e1, Nat.mul_one]; exact Nat.le_refl _, ?_⟩
  show ((List.replicate n ("9" : Str).cps).foldl (· ++ ·) #[]).toList.count 32 ≤ 0
  rw [fold_count]
  have e2 : ("9" : Str).cps.toList.count 32 = 0 := by decide +kernel
  rw [e2]
  exact Nat.le_refl _
def smB (t : Str) : Bool := decide (t.length ≤ 100) && decide ((tl t).count 32 ≤ 100)
theorem sm_of {t : Str} (h : smB t = true) : Sm 100 100 t := by
  unfold smB at h
  rw [Bool.and_eq_true, decide_eq_true_iff, decide_eq_true_iff] at h
  exact ⟨h.1, h.2⟩
def fewA : List Str := ["", "-", " ", "--", "0:0", "1:2", "-1:2", "1:-2", "-0:2", "1:-0", "00:1", "1:02", "1:2 3:4", "1:2  3:4"]
def fewB : List Str := [" 1:2", "1:2 ", "1: 2", "1 :2", "1:", ":2", ":", "1", "1:2:3", "1:2,3:4", "+1:2", "1:+2", "1_0:2"]
def fewC : List Str := ["1:2\n", "1:2\t3:4", "x:1", "1:x", "1.0:2", "- 1:2", "1:2 -", "5:0 5:0", "0:" ++ repS "9" (60 : Int).toNat]
def fewD : List Str := ["0:" ++ repS "9" (61 : Int).toNat, "-" ++ repS "9" (60 : Int).toNat ++ ":1", repS "9" (4000 : Int).toNat ++ ":1"]
def few : List Str := fewA ++ fewB ++ fewC ++ fewD
theorem few_tx : ∀ t ∈ few, Tx t := by
  have ha : fewA.all smB = true := by decide +kernel
  have hb : fewB.all smB = true := by decide +kernel
  have hc : (["1:2\n", "1:2\t3:4", "x:1", "1:x", "1.0:2", "- 1:2", "1:2 -", "5:0 5:0"] : List Str).all smB = true := by decide +kernel
  have z : smB "0:" = true := by decide +kernel
  have m : smB "-" = true := by decide +kernel
  have o : smB ":1" = true := by decide +kernel
  have one : ∀ {l : List Str}, l.all smB = true → ∀ t ∈ l, Tx t := fun h t mt => (sm_of (List.all_eq_true.mp h t mt)).tx (by decide) (by decide)
  intro t mt
  unfold few at mt
  rcases List.mem_append.mp mt with mt | mt
  · rcases List.mem_append.mp mt with mt | mt
    · rcases List.mem_append.mp mt with mt | mt
      · exact one ha t mt
      · exact one hb t mt
    · have : fewC = (["1:2\n", "1:2\t3:4", "x:1", "1:x", "1.0:2", "- 1:2", "1:2 -", "5:0 5:0"] : List Str) ++ (["0:" ++ repS "9" (60 : Int).toNat] : List Str) := rfl
      rw [this] at mt
      rcases List.mem_append.mp mt with mt | mt
      · exact one hc t mt
      · rw [List.mem_singleton.mp mt]
        exact ((sm_of z).app (sm_nines _)).tx (by decide) (by decide)
  · unfold fewD at mt
    simp only [List.mem_cons, List.not_mem_nil, or_false] at mt
    rcases mt with rfl | rfl | rfl
    · exact ((sm_of z).app (sm_nines _)).tx (by decide) (by decide)
    · exact (((sm_of m).app (sm_nines _)).app (sm_of o)).tx (by decide) (by decide)
    · exact ((sm_nines _).app (sm_of o)).tx (by decide) (by decide)
theorem few_len : few.length ≤ 100 := by decide +kernel
theorem rv_mulS {H : Hp} {k : Int} (h : 2 ≤ k) (h2 : k ≤ 100000) : Evl.RV (fun x y H Q => ∃ (i : Str) (k : Int), x = .str i ∧ y = .int k ∧ 2 ≤ k ∧ k ≤ 100000 ∧ i.length = 1 ∧ Q (.str (repS i k.toNat)) H) (.str "9") (.int k) H (.str (repS "9" k.toNat)) := fun H' _ _ q =>
  ⟨_, _, rfl, rfl, h, h2, rfl, q H' (Evl.Ex.refl _)⟩
section
variable {P : Program} {w : World} {K : PySem.W.Frag} {mg : Str → Option Value} {base : Heap} {C1 C2 C3 C4 : Addr}
def spFew : Sp := fun vs H Q _ => vs = [] ∧ ∀ H' p, Same H H' → H p = none → H' p = some (.lst (few.map V.str)) → Q (.ref p) H'
theorem cal_law_few (T : Top K mg) : C8.Cal P w K mg base 1 "_law_few" spFew [] := by
  refine T.d__law_few.cal sc__law_few (fun vs H Q E h => ?_) (fun f cdv A outer s H vs Q E hr h => ?_)
  · obtain ⟨rfl, _⟩ := h
    rfl
  · obtain ⟨rfl, q⟩ := h
    refine ⟨_, (pss_cons (ps_set (i := 0) sc__law_few.nd rfl (Or.inl rfl) (pe_lst (pa_cons pe_str (pa_cons pe_str (pa_cons pe_str (pa_cons pe_str (pa_cons pe_str (pa_cons pe_str (pa_cons pe_str (pa_cons pe_str (pa_cons pe_str (pa_cons pe_str (pa_cons pe_str (pa_cons pe_str (pa_cons pe_str (pa_cons pe_str pa_nil))))))))))))))))
 (pss_cons (ps_set (i := 0) sc__law_few.nd rfl (Or.inl rfl) (pe_op op_cat (pv 0) (pe_lst (pa_cons pe_str (pa_cons pe_str (pa_cons pe_str (pa_cons pe_str (pa_cons pe_str (pa_cons pe_str (pa_cons pe_str (pa_cons pe_str (pa_cons pe_str (pa_cons pe_str (pa_cons pe_str (pa_cons pe_str (pa_cons pe_str pa_nil))))))))))))))))
 (pss_cons (ps_set (i := 0) sc__law_few.nd rfl (Or.inl rfl) (pe_op op_cat (pv 0) (pe_lst (pa_cons pe_str (pa_cons pe_str (pa_cons pe_str (pa_cons pe_str (pa_cons pe_str (pa_cons pe_str (pa_cons pe_str (pa_cons pe_str (pa_cons (pe_op op_add_str pe_str (pe_op op_mulS pe_str pe_int)) pa_nil))))))))))))
 (pss_one (ps_ret (pe_op op_cat (pv 0) (pe_lst (pa_cons (pe_op op_add_str pe_str (pe_op op_mulS pe_str pe_int)) (pa_cons (pe_op op_add_str (pe_op op_add_str pe_str (pe_op op_mulS pe_str pe_int)) pe_str) (pa_cons (pe_op op_add_str (pe_op op_mulS pe_str pe_int) pe_str) pa_nil)))))))))), ?_⟩
    refine Evl.q_asgL (xs := fewA.map V.str) (Evl.el_lst (Evl.ea_cons Evl.ev_c (Evl.ea_cons Evl.ev_c (Evl.ea_cons Evl.ev_c (Evl.ea_cons Evl.ev_c (Evl.ea_cons Evl.ev_c (Evl.ea_cons Evl.ev_c (Evl.ea_cons Evl.ev_c (Evl.ea_cons Evl.ev_c (Evl.ea_cons Evl.ev_c (Evl.ea_cons Evl.ev_c (Evl.ea_cons Evl.ev_c (Evl.ea_cons Evl.ev_c (Evl.ea_cons Evl.ev_c (Evl.ea_cons Evl.ev_c Evl.ea_nil)))))))))))))) (by show 14 ≤ 100000; decide)) fun p1 H1 n1 s1 e1 => ?_
    refine Evl.q_asgL (xs := fewA.map V.str ++ fewB.map V.str) (el_cat (evi_var rfl e1) (evi_of (Evl.el_lst (Evl.ea_cons Evl.ev_c (Evl.ea_cons Evl.ev_c (Evl.ea_cons Evl.ev_c (Evl.ea_cons Evl.ev_c (Evl.ea_cons Evl.ev_c (Evl.ea_cons Evl.ev_c (Evl.ea_cons Evl.ev_c (Evl.ea_cons Evl.ev_c (Evl.ea_cons Evl.ev_c (Evl.ea_cons Evl.ev_c (Evl.ea_cons Evl.ev_c (Evl.ea_cons Evl.ev_c (Evl.ea_cons Evl.ev_c Evl.ea_nil))))))))))))) (by show 13 ≤ 100000; decide))) (by show 14 + 13 ≤ 100000; decide)) fun p2 H2 n2 s2 e2 => ?_
    have c60 : ∀ σ H', Evl.Ev (tOp (fun x y H Q => ∃ (i : Str) (k : Int), x = V.str i ∧ y = V.int k ∧ 2 ≤ k ∧ k ≤ 100000 ∧ i.length = 1 ∧ Q (V.str (repS i k.toNat)) H) (tC (.str "9")) (tC (.int 60))) σ H' (.str (repS "9" (60 : Int).toNat)) := fun _ _ => Evl.ev_op Evl.ev_c Evl.ev_c (rv_mulS (by decide) (by decide))
    have l60 := (sm_nines (60 : Int).toNat).len
    have l61 := (sm_nines (61 : Int).toNat).len
    have l4k := (sm_nines (4000 : Int).toNat).len
    have d0 : ("0:" : Str).length = 2 := rfl
    have d1 : (":1" : Str).length = 2 := rfl
    have d2 : ("-" : Str).length = 1 := rfl
    have t60 : (60 : Int).toNat = 60 := rfl
    have t61 : (61 : Int).toNat = 61 := rfl
    have t4k : (4000 : Int).toNat = 4000 := rfl
    have v60 : ∀ σ H', Evl.Ev _ σ H' (.str ("0:" ++ repS "9" (60 : Int).toNat)) := fun σ H' => Evl.ev_op (Evl.ev_c (v := .str "0:")) (c60 σ H') (rv_addS (by omega))
    refine Evl.q_asgL (xs := fewA.map V.str ++ fewB.map V.str ++ fewC.map V.str) (el_cat (evi_var rfl e2) (evi_of (Evl.el_lst (vs := fewC.map V.str) (Evl.ea_cons Evl.ev_c (Evl.ea_cons Evl.ev_c (Evl.ea_cons Evl.ev_c (Evl.ea_cons Evl.ev_c (Evl.ea_cons Evl.ev_c (Evl.ea_cons Evl.ev_c (Evl.ea_cons Evl.ev_c (Evl.ea_cons Evl.ev_c (Evl.ea_cons (v60 _ _) Evl.ea_nil))))))))) (by show 9 ≤ 100000; decide))) (by show 27 + 9 ≤ 100000; decide)) fun p3 H3 n3 s3 e3 => ?_
    refine Evl.s_retL (xs := fewA.map V.str ++ fewB.map V.str ++ fewC.map V.str ++ fewD.map V.str) (el_cat (evi_var rfl e3) (evi_of (Evl.el_lst (vs := fewD.map V.str) (Evl.ea_cons (Evl.ev_op Evl.ev_c (Evl.ev_op Evl.ev_c Evl.ev_c (rv_mulS (by decide) (by decide))) (rv_addS (by omega)))
      (Evl.ea_cons (Evl.ev_op (Evl.ev_op Evl.ev_c (c60 _ _) (rv_addS (by omega))) Evl.ev_c (rv_addS (by rw [str_len_app]; omega))) (Evl.ea_cons (Evl.ev_op (Evl.ev_op Evl.ev_c Evl.ev_c (rv_mulS (by decide) (by decide))) Evl.ev_c (rv_addS (by omega))) Evl.ea_nil))) (by show 3 ≤ 100000; decide))) (by show 36 + 3 ≤ 100000; decide)) fun p4 H4 n4 s4 e4 => ?_
    have s34 := (Same.trans (Same.trans s1 s2) s3)
    refine q H4 p4 (Same.trans s34 s4) (Same.free s34 n4) ?_
    unfold few
    rw [List.map_append, List.map_append, List.map_append]
    exact e4
end
end Wk
/-! law 6: law -/
namespace Wk
open PySem PySem.Spec PyProof.Rows L2 Spr TL
section
variable {K : PySem.W.Frag} {σ : L2.St} {H : Hp} {te ta tb tl : TE}
theorem add_at {x y : Int} {Q : VK} (h : ∀ c : Int, Q (.int c) H) : rI0 (fun i j => V.int (i + j)) (.int x) (.int y) H Q := ⟨x, y, rfl, rfl, h _⟩
theorem ev_join {ys : List Str} {a : Str} (h1 : Evl.Ev ta σ H (.str a)) (h2 : Evl.EvL tb σ H (ys.map V.str)) (hz : (ys.map (·.length)).sum + ys.length * a.length ≤ 16777216) :
    Evl.Ev (tM1 (fun x xs H Q => ∃ a p, ∃ ys : List Str, x = V.str a ∧ xs = [V.ref p] ∧ (SqL K H p (ys.map V.str) ∨ SqT K H p (ys.map V.str)) ∧ (ys.map (·.length)).sum + ys.length * a.length ≤ 16777216 ∧ Q (V.str (Txt.join a ys)) H) ta tb) σ H (.str (Txt.join a ys)) := fun H0 s0 Q q =>
  h1 H0 s0 _ fun H1 s1 => ⟨⟨a, rfl⟩, h2 H1 (Same.trans s0 s1) _ fun p H2 _ s2 ep => ⟨a, p, ys, rfl, rfl, .inl (SqL.of ep), hz, q H2 (Same.trans s1 s2)⟩⟩
theorem ev_right {t : Str} (h : Evl.Ev te σ H (.str t)) (hT : Tx t) : Evl.Ev (tCall spRight [] C8.E0 (tCons te tNil)) σ H (.bl true) := fun H0 s0 Q q =>
  h H0 s0 _ fun H1 s1 => ⟨t, rfl, hT, fun H2 s2 => q H2 (Same.trans s1 s2)⟩
theorem el_few : Evl.EvL (tCall spFew [] C8.E0 tNil) σ H (few.map V.str) := fun H0 s0 Q q => ⟨rfl, fun H1 p s1 np ep => q p H1 np s1 ep⟩
/-- all([e for x in list]), each True; what the items are stands in R -/
theorem ev_allX {i : Nat} {vs : List Nat} (R : Hp → V → Prop) (hR : ∀ H1 H2 x, Same H1 H2 → R H1 x → R H2 x)
    (h : ∀ H1, Same H H1 → ∀ Q : VK, (∀ p xs H2, Same H1 H2 → H2 p = some (.lst xs) → xs.length ≤ 40000 → (∀ x ∈ xs, R H2 x) → Q (.ref p) H2) → tl σ H1 Q) (hw : ∀ a, wipe ((wipe σ vs).set i a) vs = wipe σ vs)
    (he : ∀ x H1, R H1 x → Evl.Ev te ((wipe σ vs).set i (some x)) H1 (.bl true)) : Evl.Ev (tCB (rAll K) (tCons (tLc (iList K tl) (gName i) tYes te vs) tNil)) σ H (.bl true) := fun H0 s0 Q q =>
  h H0 s0 _ fun a xs H1 s1 ea hm hx => ⟨a, rfl, ⟨xs, SqL.of ea⟩, fun D nD =>
    lc_list (K := K) (a := a) (xs := xs) (fun k H' => Same H1 H' ∧ H' D = some (.lst ((List.replicate k true).map V.bl))) ⟨same_new nD, upd_same⟩ (fun k H' _ p => SqL.of (p.1 _ _ ea))
      (fun k x H' hk p => ⟨hw _, yesT (he x H' (hR H1 H' x p.1 (hx x (List.mem_of_getElem? hk))) H' (Same.refl _) _ fun H4 s4 => ⟨_, s4 _ _ p.2, by
        have := (List.getElem?_eq_some_iff.mp hk).1
        rw [List.length_map, List.length_replicate]
        exact Evl.sz_lt (by omega), same_mut (Same.trans p.1 s4) nD, by
        rw [upd_same, List.replicate_succ', List.map_append]
        rfl⟩)⟩)
      (fun H' p => ⟨D, List.replicate xs.length true, rfl, SqL.of p.2, by
        have : (List.replicate xs.length true).all id = true := by
          rw [List.all_eq_true]
          intro b m
          exact (List.mem_replicate.mp m).2
        rw [this]
        exact q H' (Same.trans s1 p.1)⟩)⟩
end
/-- what no text is, as the law has it -/
def Odd (H : Hp) (v : V) : Prop := v = .non ∨ v = .int 5 ∨ (∃ p xs, v = .ref p ∧ H p = some (.lst xs)) ∨ v = .bl true
theorem odd_mono {H1 H2 : Hp} {v : V} (s : Same H1 H2) (h : Odd H1 v) : Odd H2 v := by
  rcases h with h | h | ⟨p, xs, h, e⟩ | h
  · exact .inl h
  · exact .inr (.inl h)
  · exact .inr (.inr (.inl ⟨p, xs, h, s _ _ e⟩))
  · exact .inr (.inr (.inr h))
theorem odd_no {K : PySem.W.Frag} {H : Hp} {v : V} (h : Odd H v) : NoT K H v := by
  rcases h with rfl | rfl | ⟨p, xs, rfl, e⟩ | rfl
  · exact ⟨_, .base .non, by decide +kernel⟩
  · exact ⟨_, .base (.int 5), by decide +kernel⟩
  · exact ⟨_, .base (.lst e), by decide +kernel⟩
  · exact ⟨_, .base (.bl true), by decide +kernel⟩
theorem at_get {α : Type} {l : List α} {n : Nat} (h : (n : Int) < (l.length : Int)) : ∃ c, atI l (n : Int) = some c :=
  ⟨l[n]'(by omega), atI_nat (j := n) (List.getElem?_eq_getElem (by omega))⟩
theorem two_at {c : Nat} {n : Nat} (h : (n : Int) < 2) : ∃ s : Str, s.length ≤ 1 ∧ atI [V.str "", V.str ⟨#[c]⟩] (n : Int) = some (.str s) := by
  match n, h with
  | 0, _ => exact ⟨"", by decide, rfl⟩
  | 1, _ => exact ⟨⟨#[c]⟩, Nat.le_refl _, rfl⟩
  | n + 2, h => omega
section
variable {P : Program} {w : World} {K : PySem.W.Frag} {mg : Str → Option Value} {base : Heap} {C1 C2 C3 C4 : Addr}
def spLaw (K : PySem.W.Frag) : Sp := fun vs H Q _ => ∃ (a : Addr) (ns : List Int), vs = [.ref a] ∧ SqL K H a (ns.map V.int) ∧ ns.length ≤ 63 ∧ ∀ H', Q (.bl true) H'
theorem ok_law {f : Addr} {fd : FuncData} (F : L2.Fun K "law" "law" st_law f fd) (T : Top K mg) (TX : TopX K mg C1 C2 C3 C4) : FnOk P w K mg base CX0 7 f fd ["_law_script"] (spLaw K) := by
  obtain ⟨tM, gM⟩ := TX.k_MOST
  have c__law_cell_at : C8.Cal P w K mg base 1 "_law_cell_at" (spCell K) [] := cal_cell_at T
  have c__law_draw : C8.Cal P w K mg base 1 "_law_draw" spDraw [] := cal_draw T
  have c__law_heaps : C8.Cal P w K mg base 2 "_law_heaps" (spHeaps K) [] := cal_heaps T
  have c_written : C8.Cal P w K mg base 4 "written" spWritten [] := cal_written T gM
  have c__law_right : C8.Cal P w K mg base 6 "_law_right" spRight [] := cal_law_right T TX gM
  have c__law_refused : C8.Cal P w K mg base 5 "_law_refused" (spRefused K) [] := cal_law_refused T TX
  have c__law_few : C8.Cal P w K mg base 1 "_law_few" spFew [] := cal_law_few T
  refine F.ok sc_law (fun vs H Q E h => ?_) (fun cdv A outer s H vs Q E hr h => ?_)
  · obtain ⟨a, ns, rfl, _⟩ := h
    rfl
  · obtain ⟨a, ns, rfl, hS, hlen, q⟩ := h
    refine ⟨_, (pss_cons (ps_set (i := 1) sc_law.nd rfl (Or.inl rfl) (C8.pe_c c__law_heaps hr (by decide) (by rfl) (pa_cons (pv 0) pa_nil)))
 (pss_cons (ps_set (i := 2) sc_law.nd rfl (Or.inl rfl) (pe_ifExp (pt_cmpR (op_neD hr.units) (pv 1) (pe_lst pa_nil) (nomark _)) (pe_join pe_str (pe_lc (own := [("_law_place", 3), ("_law_count", 4)]) (g := (gTup K 2 (gCons (gName 3) (gCons (gName 4) gNil)))) rfl sc_law.nd (pi_list (pv 1)) (blkOk_by (own := [("_law_place", 3), ("_law_count", 4)]) (N := ["_law_script", "_law_heaps_here", "_law_text", "_law_place", "_law_count", "_law_handed", "_law_cell", "_law_k", "_law_at", "_law_sign", "_law_other", "_law_thing"]) (sc := defScope st_law) (by decide +kernel)) (fun _ _ _ _ _ => (pg_tup rfl (pgs_cons (pg_name (i := 3) sc_law.nd rfl (Or.inl rfl)) (pgs_cons (pg_name (i := 4) sc_law.nd rfl (Or.inl rfl)) pgs_nil)))) (fun _ _ _ _ _ => pts_nil) (fun _ _ _ _ _ => (pe_op op_add_str (pe_op op_add_str (pe_callTy call_str_int (by rfl) T.m_str (by decide +kernel) (pa_cons (pv 3) pa_nil)) pe_str) (pe_callTy call_str_int (by rfl) T.m_str (by decide +kernel) (pa_cons (pv 4) pa_nil)))))) pe_str))
 (pss_cons (ps_set (i := 5) sc_law.nd rfl (Or.inl rfl) (pe_callTy call_list_of (by rfl) T.m_list (by decide +kernel) (pa_cons (pv 1) pa_nil)))
 (pss_cons (ps_if (PW.pt (pw_or (pt_cmpR op_ne (C8.pe_c c_written hr (by decide) (by rfl) (pa_cons (pv 5) pa_nil)) (pv 2) (nomark _)) (pw_or (pt_cmpR (op_neD hr.units) (pv 5) (pv 1) (nomark _)) (pw_or1 (pt_not (pt_val (C8.pe_c c__law_right hr (by decide) (by rfl) (pa_cons (pv 2) pa_nil))))))))
 (pss_one (ps_ret pe_bl))
 pss_nil)
 (pss_cons (ps_set (i := 6) sc_law.nd rfl (Or.inl rfl) (pe_op op_add (C8.pe_c c__law_cell_at hr (by decide) (by rfl) (pa_cons (pv 0) (pa_cons pe_int pa_nil))) (pe_op op_mul pe_int (C8.pe_c c__law_cell_at hr (by decide) (by rfl) (pa_cons (pv 0) (pa_cons pe_int pa_nil))))))
 (pss_cons (ps_for PassesOwn.never rfl (pi_range1 (by rfl) T.m_range (pa_cons pe_int pa_nil)) (pg_name (i := 7) sc_law.nd rfl (Or.inl rfl))
 (pss_cons (ps_set (i := 8) sc_law.nd rfl (Or.inl rfl) (C8.pe_c c__law_draw hr (by decide) (by rfl) (pa_cons (pe_op op_add (pv 6) (pv 7)) (pa_cons pe_int (pa_cons (pe_op op_add (pe_callB call_len_str (by rfl) T.m_len (by decide +kernel) (pa_cons (pv 2) pa_nil)) pe_int) pa_nil)))))
 (pss_cons (ps_set (i := 9) sc_law.nd rfl (Or.inl rfl) (pe_ix ix_tup (pe_tup (pa_cons pe_str (pa_cons (pe_ix ix_str pe_str (C8.pe_c c__law_draw hr (by decide) (by rfl) (pa_cons (pe_op op_add (pv 6) (pv 7)) (pa_cons pe_int (pa_cons pe_int pa_nil)))) (fun _ _ => rfl)) pa_nil))) (C8.pe_c c__law_draw hr (by decide) (by rfl) (pa_cons (pe_op op_add (pv 6) (pv 7)) (pa_cons pe_int (pa_cons pe_int pa_nil)))) (fun _ _ => rfl)))
 (pss_one (ps_if (pt_not (pt_val (C8.pe_c c__law_right hr (by decide) (by rfl) (pa_cons (pe_op op_add_str (pe_op op_add_str (pe_slice sl_str (pv 2) po_none (po_some (pv 8))) (pv 9)) (pe_slice sl_str (pv 2) (po_some (pe_op op_add (pv 8) (C8.pe_c c__law_draw hr (by decide) (by rfl) (pa_cons (pe_op op_add (pv 6) (pv 7)) (pa_cons pe_int (pa_cons pe_int pa_nil)))))) po_none)) pa_nil))))
 (pss_one (ps_ret pe_bl))
 pss_nil)))))
 (pss_cons (ps_if (pt_not (pt_val (pe_callB (cr_all rfl) (by rfl) T.m_all (by decide +kernel) (pa_cons (pe_lc (own := [("_law_other", 10)]) (g := (gName 10)) rfl sc_law.nd (pi_list (pe_c0 c__law_few hr (by decide) (by rfl))) (blkOk_by (own := [("_law_other", 10)]) (N := ["_law_script", "_law_heaps_here", "_law_text", "_law_place", "_law_count", "_law_handed", "_law_cell", "_law_k", "_law_at", "_law_sign", "_law_other", "_law_thing"]) (sc := defScope st_law) (by decide +kernel)) (fun _ _ _ _ _ => (pg_name (i := 10) sc_law.nd rfl (Or.inl rfl))) (fun _ _ _ _ _ => pts_nil) (fun _ _ _ _ _ => (C8.pe_c c__law_right hr (by decide) (by rfl) (pa_cons (pv 10) pa_nil)))) pa_nil))))
 (pss_one (ps_ret pe_bl))
 pss_nil)
 (pss_one (ps_ret (pe_callB (cr_all rfl) (by rfl) T.m_all (by decide +kernel) (pa_cons (pe_lc (own := [("_law_thing", 11)]) (g := (gName 11)) rfl sc_law.nd (pi_list (pe_lst (pa_cons pe_non (pa_cons pe_int (pa_cons (pe_lst (pa_cons pe_str pa_nil)) (pa_cons pe_bl pa_nil)))))) (blkOk_by (own := [("_law_thing", 11)]) (N := ["_law_script", "_law_heaps_here", "_law_text", "_law_place", "_law_count", "_law_handed", "_law_cell", "_law_k", "_law_at", "_law_sign", "_law_other", "_law_thing"]) (sc := defScope st_law) (by decide +kernel)) (fun _ _ _ _ _ => (pg_name (i := 11) sc_law.nd rfl (Or.inl rfl))) (fun _ _ _ _ _ => pts_nil) (fun _ _ _ _ _ => (C8.pe_c c__law_refused hr (by decide) (by rfl) (pa_cons (pv 11) pa_nil)))) pa_nil))))))))))), ?_⟩
    -- heaps
    refine ⟨_, rfl, a, ns, rfl, hS, hlen, fun hs H1 b hx s1 nb hb => ?_⟩
    refine nx_mk ?_
    have hB := hx.hb
    have hl := hx.len
    have hty := wText_ty hx
    have htl := hty.len
    -- text
    refine Evl.q_asg (v := .str (wText hs)) (Evl.ev_if (b := !decide (hs = [])) (Evl.et_test (ev_neQ (evq_var rfl hb) (evn_disp evps_nil (by decide)).q)) (fun c => ?_) (fun c => ?_)) fun H2 s2 => ?_
    · have e : wText hs = Txt.join " " (hs.map wPair) := if_neg (by simpa using c)
      rw [e]
      refine ev_join (K := K) Evl.ev_c ?_ ?_
      · rw [List.map_map]
        refine el_lcP0 (K := K) (V.str ∘ wPair) (evq_var rfl hb) (by omega) (fun _ _ => rfl) fun x mx => ?_
        have w1 : Wd 200 x.1 := hB.w1 x mx
        have w2 : Wd 200 x.2 := hB.w2 x mx
        have n1 := num_len w1
        have n2 := num_len w2
        have e1 : (":" : Str).length = 1 := rfl
        exact Evl.ev_op (Evl.ev_op (ev_str (Evl.ev_var rfl) (log_wd w1)) Evl.ev_c (rv_addS (by omega))) (ev_str (Evl.ev_var rfl) (log_wd w2)) (rv_addS (by rw [str_len_app]; omega))
      · have sm := wSum hB
        rw [List.length_map]
        have e1 : (" " : Str).length = 1 := rfl
        rw [e1]
        omega
    · have e : wText hs = "-" := if_pos (by simpa using c)
      rw [e]
      exact Evl.ev_c
    have hb2 := hb.mono s2
    -- handed
    refine q_n (evn_list (K := K) (evq_var rfl hb2)) fun e H3 ne s3 he => ?_
    have hb3 := hb2.mono s3
    refine q_whenb (b := false) (Evl.et_is (Evl.et_or (Evl.et_test (Evl.ev_op (ev_written (evq_var rfl he) hB ?_) (Evl.ev_var rfl) rv_neS)) fun _ => Evl.et_or (Evl.et_test (ev_neQ (evq_var rfl he) (evq_var rfl hb3))) fun _ => Evl.et_not (Evl.et_B (ev_right (Evl.ev_var rfl) hty.tx))) ?_) (fun z => nomatch z) (fun _ H4 s4 => ?_)
    · rw [List.all_eq_true]
      intro x m
      have p := hx.pos x m
      have a1 := hx.w1 x m
      have a2 := hx.w2 x m
      have e40 : (10 : Int) ^ 40 = ((10 ^ 40 : Nat) : Int) := by decide +kernel
      have lt : (10 : Nat) ^ 40 < 10 ^ 60 := by decide +kernel
      rw [e40] at a2
      unfold okW absI
      rw [most_is, Bool.and_eq_true, decide_eq_true_iff, decide_eq_true_iff]
      generalize (10 : Nat) ^ 40 = m40 at *
      generalize (10 : Nat) ^ 60 = m60 at *
      constructor
      · split <;> omega
      · omega
    · rw [decide_eq_true rfl, decide_eq_true rfl]
      rfl
    have s14 := (s1.trans s2).trans (s3.trans s4)
    have hS4 := same_sqL s14 hS
    -- cell
    refine ⟨_, rfl, a, ns, 3, rfl, hS4, by decide, fun i3 => ⟨_, rfl, a, ns, 0, rfl, hS4, by decide, fun i0 => ⟨_, _, rfl, rfl, .inl ⟨by decide, by decide⟩, ?_⟩⟩⟩
    refine add_at fun cell => ?_
    refine nx_mk ?_
    have wl : (wText hs).length ≤ sizeLine := Evl.sz_of (by omega)
    refine q_forR (n := 2) (by decide) (fun σ => ∃ y7 y8 y9, σ = [some (.ref a), some (.ref b), some (.str (wText hs)), none, none, some (.ref e), some (.int cell), y7, y8, y9, none, none]) ⟨_, _, _, rfl⟩ ?_ ?_
    · rintro k hk B σ' H5 sB ⟨y7, y8, y9, rfl⟩ s5
      refine ⟨_, rfl, _, rfl, _, _, rfl, rfl, _, rfl, wText hs, rfl, wl, _, _, rfl, rfl, _, 1, _, rfl, by decide, by omega, fun r H6 r0 r1 s6 => ?_⟩
      obtain ⟨n, rfl⟩ := Int.eq_ofNat_of_zero_le r0
      refine nx_mk ?_
      refine ⟨_, rfl, _, rfl, _, _, rfl, rfl, _, 2, 15, rfl, by decide, by decide, fun r2 H7 r20 r21 s7 => ?_⟩
      obtain ⟨n2, rfl⟩ := Int.eq_ofNat_of_zero_le r20
      obtain ⟨c, hc⟩ := at_get (l := ("0123456789: -x\n" : Str).cps.toList) (n := n2) r21
      refine ⟨_, _, c, rfl, rfl, Evl.sz_of (by decide), hc, (by show 2 ≤ sizeLine; decide), fun u nu => ?_⟩
      refine ⟨_, rfl, _, rfl, _, _, rfl, rfl, _, 3, 2, rfl, by decide, by decide, fun r3 H8 r30 r31 s8 => ?_⟩
      obtain ⟨n3, rfl⟩ := Int.eq_ofNat_of_zero_le r30
      obtain ⟨sg, hsg, eat⟩ := two_at (c := c) (n := n3) r31
      refine ⟨u, _, _, _, rfl, rfl, SqT.of (s8 _ _ upd_same), eat, ?_⟩
      refine nx_mk ?_
      have s58 := ((s5.trans s6).trans s7).trans ((same_new nu).trans s8)
      refine ⟨_, rfl, _, rfl, _, rfl, _, rfl, wl, _, rfl, _, _, rfl, rfl, ?_, _, rfl, _, rfl, _, rfl, _, rfl, _, _, rfl, rfl, _, 4, 2, rfl, by decide, by decide, fun r4 H9 r40 r41 s9 => ?_⟩
      · have := cutS_length (wText hs) none (some (n : Int))
        exact Evl.sz_of (by omega)
      obtain ⟨n4, rfl⟩ := Int.eq_ofNat_of_zero_le r40
      have hT := cut_tx hty hsg n n4
      rw [Int.natCast_add] at hT
      refine ⟨_, _, rfl, rfl, _, rfl, _, rfl, wl, _, _, rfl, rfl, ?_, _, rfl, hT, fun H10 s10 => ⟨true, rfl, iteF ⟨⟨_, _, _, rfl⟩, (s58.trans s9).trans s10⟩⟩⟩
      have l1 := cutS_length (wText hs) none (some (n : Int))
      have l2 := cutS_length (wText hs) (some ((n : Int) + (n4 : Int))) none
      rw [str_len_app]
      exact Evl.sz_of (by omega)
    · rintro σ' H5 ⟨y7, y8, y9, rfl⟩ s5
      refine q_whenb (b := false) (Evl.et_is (Evl.et_not (Evl.et_B (ev_allL (K := K) (bs := (few.map V.str).map fun _ => true) ?_))) ?_) (fun z => nomatch z) (fun _ H6 s6 => ?_)
      · rw [List.map_map]
        refine el_lcI (K := K) (V.bl ∘ fun _ => true) (evi_of el_few) (by rw [List.length_map]; exact Nat.le_trans few_len (by decide)) (fun _ => rfl) fun x mx => ?_
        obtain ⟨t, mt, rfl⟩ := List.mem_map.mp mx
        exact ev_right (Evl.ev_var rfl) (few_tx t mt)
      · have : ((few.map V.str).map fun _ => true).all id = true := by
          rw [List.all_map, List.all_eq_true]
          intro _ _
          rfl
        rw [this]
        rfl
      refine ret_v (v := .bl true) (ev_allX (K := K) Odd (fun _ _ _ s h => odd_mono s h) (fun H7 s7 Q7 q7 => ?_) (fun _ => rfl) fun x H7 o => ?_) fun H7 s7 => q H7
      · refine ⟨(by show 1 ≤ sizeLine; decide), fun p np => ⟨(by show 4 ≤ sizeLine; decide), fun p2 np2 => ?_⟩⟩
        have t1 := same_new (o := .lst [.str "1:2"]) np
        have t2 := same_new (o := .lst [.non, .int 5, .ref p, .bl true]) np2
        refine q7 p2 _ _ (t1.trans t2) upd_same (by show 4 ≤ 40000; decide) fun x m => ?_
        simp only [List.mem_cons, List.not_mem_nil, or_false] at m
        rcases m with rfl | rfl | rfl | rfl
        · exact .inl rfl
        · exact .inr (.inl rfl)
        · exact .inr (.inr (.inl ⟨p, _, rfl, t2 _ _ upd_same⟩))
        · exact .inr (.inr (.inr rfl))
      · exact fun H8 s8 Q8 q8 => ⟨_, rfl, x, rfl, .inl (odd_no (odd_mono s8 o)), fun H9 s9 => q8 H9 s9⟩
end
end Wk
namespace Wk
open PySem PySem.Spec PyProof.Rows L2
theorem all_mk {l : PySem.W.OpenLaw} {w : World} {K : PySem.W.Frag} {h : Heap} {mg : Str → Option Value} {fa C_HeapError C_BadHeaps C_BadPlace C_BadText f1 f2 f3 f4 f5 f6 f7 f8 f9 f10 f11 f12 f13 f14 f15 : Addr} (X : K.In h) (G : h.Ns mainGlobals mg) (hfa : mg "law" = some (.ref fa))
     {tk_MOST : Tok} {tk_FIGURES : Tok} {od1 an1 od2 an2 od3 an3 od4 an4 od5 an5 od6 an6 od7 an7 od8 an8 od9 an9 od10 an10 od11 an11 od12 an12 od13 an13 od14 an14 od15 an15 : Option Addr} {sl1 sl2 sl3 sl4 sl5 sl6 sl7 sl8 sl9 sl10 sl11 sl12 sl13 sl14 sl15 : Array (Option Value)} {oc1 kV1 dc1 pm1 cd1 ct1 oc2 kV2 dc2 pm2 cd2 ct2 oc3 kV3 dc3 pm3 cd3 ct3 oc4 kV4 dc4 pm4 cd4 ct4 oc5 kV5 dc5 pm5 cd5 ct5 oc6 kV6 dc6 pm6 cd6 ct6 oc7 kV7 dc7 pm7 cd7 ct7 oc8 kV8 dc8 pm8 cd8 ct8 oc9 kV9 dc9 pm9 cd9 ct9 oc10 kV10 dc10 pm10 cd10 ct10 oc11 kV11 dc11 pm11 cd11 ct11 oc12 kV12 dc12 pm12 cd12 ct12 oc13 kV13 dc13 pm13 cd13 ct13 oc14 kV14 dc14 pm14 cd14 ct14 oc15 kV15 dc15 pm15 cd15 ct15 : Value}
    (a1 : PySem.W.nsIn K mainGlobals "law" = some (some (.ref f1)))
    (l1 : K.lookup f1 = some ⟨oc1, od1, .func (PySem.W.fnOf "law" "law" (defArgs st_law) (defBody st_law) (defScope st_law) .none kV1 dc1 pm1 an1 cd1 ct1), sl1⟩)
    (c1 : PySem.W.codeIn K cd1 "law" = true)
    (k1 : PySem.W.keepIn K (.ref f1) = true)
    (a2 : PySem.W.nsIn K mainGlobals "_law_heaps" = some (some (.ref f2)))
    (l2 : K.lookup f2 = some ⟨oc2, od2, .func (PySem.W.fnOf "_law_heaps" "_law_heaps" (defArgs st__law_heaps) (defBody st__law_heaps) (defScope st__law_heaps) .none kV2 dc2 pm2 an2 cd2 ct2), sl2⟩)
    (c2 : PySem.W.codeIn K cd2 "_law_heaps" = true)
    (k2 : PySem.W.keepIn K (.ref f2) = true)
    (a3 : PySem.W.nsIn K mainGlobals "_law_cell_at" = some (some (.ref f3)))
    (l3 : K.lookup f3 = some ⟨oc3, od3, .func (PySem.W.fnOf "_law_cell_at" "_law_cell_at" (defArgs st__law_cell_at) (defBody st__law_cell_at) (defScope st__law_cell_at) .none kV3 dc3 pm3 an3 cd3 ct3), sl3⟩)
    (c3 : PySem.W.codeIn K cd3 "_law_cell_at" = true)
    (k3 : PySem.W.keepIn K (.ref f3) = true)
    (a4 : PySem.W.nsIn K mainGlobals "_law_draw" = some (some (.ref f4)))
    (l4 : K.lookup f4 = some ⟨oc4, od4, .func (PySem.W.fnOf "_law_draw" "_law_draw" (defArgs st__law_draw) (defBody st__law_draw) (defScope st__law_draw) .none kV4 dc4 pm4 an4 cd4 ct4), sl4⟩)
    (c4 : PySem.W.codeIn K cd4 "_law_draw" = true)
    (k4 : PySem.W.keepIn K (.ref f4) = true)
    (a5 : PySem.W.nsIn K mainGlobals "written" = some (some (.ref f5)))
    (l5 : K.lookup f5 = some ⟨oc5, od5, .func (PySem.W.fnOf "written" "written" (defArgs st_written) (defBody st_written) (defScope st_written) .none kV5 dc5 pm5 an5 cd5 ct5), sl5⟩)
    (c5 : PySem.W.codeIn K cd5 "written" = true)
    (k5 : PySem.W.keepIn K (.ref f5) = true)
    (a6 : PySem.W.nsIn K mainGlobals "_law_right" = some (some (.ref f6)))
    (l6 : K.lookup f6 = some ⟨oc6, od6, .func (PySem.W.fnOf "_law_right" "_law_right" (defArgs st__law_right) (defBody st__law_right) (defScope st__law_right) .none kV6 dc6 pm6 an6 cd6 ct6), sl6⟩)
    (c6 : PySem.W.codeIn K cd6 "_law_right" = true)
    (k6 : PySem.W.keepIn K (.ref f6) = true)
    (a7 : PySem.W.nsIn K mainGlobals "_law_refused" = some (some (.ref f7)))
    (l7 : K.lookup f7 = some ⟨oc7, od7, .func (PySem.W.fnOf "_law_refused" "_law_refused" (defArgs st__law_refused) (defBody st__law_refused) (defScope st__law_refused) .none kV7 dc7 pm7 an7 cd7 ct7), sl7⟩)
    (c7 : PySem.W.codeIn K cd7 "_law_refused" = true)
    (k7 : PySem.W.keepIn K (.ref f7) = true)
    (a8 : PySem.W.nsIn K mainGlobals "_law_few" = some (some (.ref f8)))
    (l8 : K.lookup f8 = some ⟨oc8, od8, .func (PySem.W.fnOf "_law_few" "_law_few" (defArgs st__law_few) (defBody st__law_few) (defScope st__law_few) .none kV8 dc8 pm8 an8 cd8 ct8), sl8⟩)
    (c8 : PySem.W.codeIn K cd8 "_law_few" = true)
    (k8 : PySem.W.keepIn K (.ref f8) = true)
    (a9 : PySem.W.nsIn K mainGlobals "check_heaps" = some (some (.ref f9)))
    (l9 : K.lookup f9 = some ⟨oc9, od9, .func (PySem.W.fnOf "check_heaps" "check_heaps" (defArgs st_check_heaps) (defBody st_check_heaps) (defScope st_check_heaps) .none kV9 dc9 pm9 an9 cd9 ct9), sl9⟩)
    (c9 : PySem.W.codeIn K cd9 "check_heaps" = true)
    (k9 : PySem.W.keepIn K (.ref f9) = true)
    (a10 : PySem.W.nsIn K mainGlobals "_law_in" = some (some (.ref f10)))
    (l10 : K.lookup f10 = some ⟨oc10, od10, .func (PySem.W.fnOf "_law_in" "_law_in" (defArgs st__law_in) (defBody st__law_in) (defScope st__law_in) .none kV10 dc10 pm10 an10 cd10 ct10), sl10⟩)
    (c10 : PySem.W.codeIn K cd10 "_law_in" = true)
    (k10 : PySem.W.keepIn K (.ref f10) = true)
    (a11 : PySem.W.nsIn K mainGlobals "read" = some (some (.ref f11)))
    (l11 : K.lookup f11 = some ⟨oc11, od11, .func (PySem.W.fnOf "read" "read" (defArgs st_read) (defBody st_read) (defScope st_read) .none kV11 dc11 pm11 an11 cd11 ct11), sl11⟩)
    (c11 : PySem.W.codeIn K cd11 "read" = true)
    (k11 : PySem.W.keepIn K (.ref f11) = true)
    (a12 : PySem.W.nsIn K mainGlobals "is_heap" = some (some (.ref f12)))
    (l12 : K.lookup f12 = some ⟨oc12, od12, .func (PySem.W.fnOf "is_heap" "is_heap" (defArgs st_is_heap) (defBody st_is_heap) (defScope st_is_heap) .none kV12 dc12 pm12 an12 cd12 ct12), sl12⟩)
    (c12 : PySem.W.codeIn K cd12 "is_heap" = true)
    (k12 : PySem.W.keepIn K (.ref f12) = true)
    (a13 : PySem.W.nsIn K mainGlobals "_law_number" = some (some (.ref f13)))
    (l13 : K.lookup f13 = some ⟨oc13, od13, .func (PySem.W.fnOf "_law_number" "_law_number" (defArgs st__law_number) (defBody st__law_number) (defScope st__law_number) .none kV13 dc13 pm13 an13 cd13 ct13), sl13⟩)
    (c13 : PySem.W.codeIn K cd13 "_law_number" = true)
    (k13 : PySem.W.keepIn K (.ref f13) = true)
    (a14 : PySem.W.nsIn K mainGlobals "number_in" = some (some (.ref f14)))
    (l14 : K.lookup f14 = some ⟨oc14, od14, .func (PySem.W.fnOf "number_in" "number_in" (defArgs st_number_in) (defBody st_number_in) (defScope st_number_in) .none kV14 dc14 pm14 an14 cd14 ct14), sl14⟩)
    (c14 : PySem.W.codeIn K cd14 "number_in" = true)
    (k14 : PySem.W.keepIn K (.ref f14) = true)
    (a15 : PySem.W.nsIn K mainGlobals "is_whole" = some (some (.ref f15)))
    (l15 : K.lookup f15 = some ⟨oc15, od15, .func (PySem.W.fnOf "is_whole" "is_whole" (defArgs st_is_whole) (defBody st_is_whole) (defScope st_is_whole) .none kV15 dc15 pm15 an15 cd15 ct15), sl15⟩)
    (c15 : PySem.W.codeIn K cd15 "is_whole" = true)
    (k15 : PySem.W.keepIn K (.ref f15) = true)
    (aC_HeapError : PySem.W.nsIn K mainGlobals "HeapError" = some (some (.ref C_HeapError)))
    (bX_HeapError : PySem.W.subIn K (.ref C_HeapError) (.type "BaseException") = some true)
    (tX_HeapError : PySem.W.typeIn K (.ref C_HeapError) = some (.type "type"))
    (kX_HeapError : PySem.W.keepIn K (.ref C_HeapError) = true)
    (iX_HeapError : PySem.W.isClsIn K C_HeapError = true)
    (dX_HeapError : PySem.W.hasDictIn K C_HeapError = true)
    (vX_HeapError : PySem.W.subIn K (.ref C_HeapError) (.type "ValueError") = some true)
    (xX_HeapError : PySem.W.excIn K C_HeapError [.type "ValueError", .type "Exception", .type "BaseException", .type "object"] "ValueError.__new__" = true)
    (gX_HeapError : PySem.W.findIn K (.ref C_HeapError) "__getattribute__" = some (some (.builtin "BaseException.__getattribute__")))
    (hX_HeapError : PySem.W.findIn K (.ref C_HeapError) "__getattr__" = some none)
    (cX_HeapError : PySem.W.findIn K (.ref C_HeapError) "__class__" = some (some (.builtin "object.__class__")))
    (mX_HeapError : PySem.W.mroIn K C_HeapError (.type "object") = some true)
    (aC_BadHeaps : PySem.W.nsIn K mainGlobals "BadHeaps" = some (some (.ref C_BadHeaps)))
    (bX_BadHeaps : PySem.W.subIn K (.ref C_BadHeaps) (.type "BaseException") = some true)
    (tX_BadHeaps : PySem.W.typeIn K (.ref C_BadHeaps) = some (.type "type"))
    (kX_BadHeaps : PySem.W.keepIn K (.ref C_BadHeaps) = true)
    (iX_BadHeaps : PySem.W.isClsIn K C_BadHeaps = true)
    (dX_BadHeaps : PySem.W.hasDictIn K C_BadHeaps = true)
    (vX_BadHeaps : PySem.W.subIn K (.ref C_BadHeaps) (.type "ValueError") = some true)
    (xX_BadHeaps : PySem.W.excIn K C_BadHeaps [.type "ValueError", .type "Exception", .type "BaseException", .type "object"] "ValueError.__new__" = true)
    (gX_BadHeaps : PySem.W.findIn K (.ref C_BadHeaps) "__getattribute__" = some (some (.builtin "BaseException.__getattribute__")))
    (hX_BadHeaps : PySem.W.findIn K (.ref C_BadHeaps) "__getattr__" = some none)
    (cX_BadHeaps : PySem.W.findIn K (.ref C_BadHeaps) "__class__" = some (some (.builtin "object.__class__")))
    (mX_BadHeaps : PySem.W.mroIn K C_BadHeaps (.type "object") = some true)
    (aC_BadPlace : PySem.W.nsIn K mainGlobals "BadPlace" = some (some (.ref C_BadPlace)))
    (bX_BadPlace : PySem.W.subIn K (.ref C_BadPlace) (.type "BaseException") = some true)
    (tX_BadPlace : PySem.W.typeIn K (.ref C_BadPlace) = some (.type "type"))
    (kX_BadPlace : PySem.W.keepIn K (.ref C_BadPlace) = true)
    (iX_BadPlace : PySem.W.isClsIn K C_BadPlace = true)
    (dX_BadPlace : PySem.W.hasDictIn K C_BadPlace = true)
    (vX_BadPlace : PySem.W.subIn K (.ref C_BadPlace) (.type "ValueError") = some true)
    (xX_BadPlace : PySem.W.excIn K C_BadPlace [.type "ValueError", .type "Exception", .type "BaseException", .type "object"] "ValueError.__new__" = true)
    (gX_BadPlace : PySem.W.findIn K (.ref C_BadPlace) "__getattribute__" = some (some (.builtin "BaseException.__getattribute__")))
    (hX_BadPlace : PySem.W.findIn K (.ref C_BadPlace) "__getattr__" = some none)
    (cX_BadPlace : PySem.W.findIn K (.ref C_BadPlace) "__class__" = some (some (.builtin "object.__class__")))
    (mX_BadPlace : PySem.W.mroIn K C_BadPlace (.type "object") = some true)
    (aC_BadText : PySem.W.nsIn K mainGlobals "BadText" = some (some (.ref C_BadText)))
    (bX_BadText : PySem.W.subIn K (.ref C_BadText) (.type "BaseException") = some true)
    (tX_BadText : PySem.W.typeIn K (.ref C_BadText) = some (.type "type"))
    (kX_BadText : PySem.W.keepIn K (.ref C_BadText) = true)
    (iX_BadText : PySem.W.isClsIn K C_BadText = true)
    (dX_BadText : PySem.W.hasDictIn K C_BadText = true)
    (vX_BadText : PySem.W.subIn K (.ref C_BadText) (.type "ValueError") = some true)
    (xX_BadText : PySem.W.excIn K C_BadText [.type "ValueError", .type "Exception", .type "BaseException", .type "object"] "ValueError.__new__" = true)
    (gX_BadText : PySem.W.findIn K (.ref C_BadText) "__getattribute__" = some (some (.builtin "BaseException.__getattribute__")))
    (hX_BadText : PySem.W.findIn K (.ref C_BadText) "__getattr__" = some none)
    (cX_BadText : PySem.W.findIn K (.ref C_BadText) "__class__" = some (some (.builtin "object.__class__")))
    (mX_BadText : PySem.W.mroIn K C_BadText (.type "object") = some true)
    (sX_HeapError_HeapError : PySem.W.subIn K (.ref C_HeapError) (.ref C_HeapError) = some true)
    (sX_HeapError_BadHeaps : PySem.W.subIn K (.ref C_HeapError) (.ref C_BadHeaps) = some false)
    (sX_HeapError_BadPlace : PySem.W.subIn K (.ref C_HeapError) (.ref C_BadPlace) = some false)
    (sX_HeapError_BadText : PySem.W.subIn K (.ref C_HeapError) (.ref C_BadText) = some false)
    (sX_BadHeaps_HeapError : PySem.W.subIn K (.ref C_BadHeaps) (.ref C_HeapError) = some true)
    (sX_BadHeaps_BadHeaps : PySem.W.subIn K (.ref C_BadHeaps) (.ref C_BadHeaps) = some true)
    (sX_BadHeaps_BadPlace : PySem.W.subIn K (.ref C_BadHeaps) (.ref C_BadPlace) = some false)
    (sX_BadHeaps_BadText : PySem.W.subIn K (.ref C_BadHeaps) (.ref C_BadText) = some false)
    (sX_BadPlace_HeapError : PySem.W.subIn K (.ref C_BadPlace) (.ref C_HeapError) = some true)
    (sX_BadPlace_BadHeaps : PySem.W.subIn K (.ref C_BadPlace) (.ref C_BadHeaps) = some false)
    (sX_BadPlace_BadPlace : PySem.W.subIn K (.ref C_BadPlace) (.ref C_BadPlace) = some true)
    (sX_BadPlace_BadText : PySem.W.subIn K (.ref C_BadPlace) (.ref C_BadText) = some false)
    (sX_BadText_HeapError : PySem.W.subIn K (.ref C_BadText) (.ref C_HeapError) = some true)
    (sX_BadText_BadHeaps : PySem.W.subIn K (.ref C_BadText) (.ref C_BadHeaps) = some false)
    (sX_BadText_BadPlace : PySem.W.subIn K (.ref C_BadText) (.ref C_BadPlace) = some false)
    (sX_BadText_BadText : PySem.W.subIn K (.ref C_BadText) (.ref C_BadText) = some true)
    (sXN : PySem.W.specialIn K (.builtin "object.__class__") "__get__" = some (some (.builtin "getset_descriptor.__get__")))
    (sXT : PySem.W.takesIn K (.builtin "object.__class__") = some true)
    (kc_MOST : PySem.W.nsIn K mainGlobals "MOST" = some (some (.int 1000000000000000000000000000000000000000000000000000000000000 tk_MOST)))
    (kc_FIGURES : PySem.W.nsIn K mainGlobals "FIGURES" = some (some (.str "0123456789" tk_FIGURES)))
    (z_list : PySem.W.nsIn K mainGlobals "list" = some none)
    (z_range : PySem.W.nsIn K mainGlobals "range" = some none)
    (z_all : PySem.W.nsIn K mainGlobals "all" = some none)
    (z_len : PySem.W.nsIn K mainGlobals "len" = some none)
    (z_str : PySem.W.nsIn K mainGlobals "str" = some none)
    (z_abs : PySem.W.nsIn K mainGlobals "abs" = some none)
    (z_isinstance : PySem.W.nsIn K mainGlobals "isinstance" = some none)
    (z_ValueError : PySem.W.nsIn K mainGlobals "ValueError" = some none)
    (z_any : PySem.W.nsIn K mainGlobals "any" = some none)
    (z_tuple : PySem.W.nsIn K mainGlobals "tuple" = some none)
    (z_int : PySem.W.nsIn K mainGlobals "int" = some none)
    (z_bool : PySem.W.nsIn K mainGlobals "bool" = some none) :
    ∃ fd : FuncData, (∀ (s : Shared) (v : Value), BindsTo s fd ⟨[v], []⟩ [("_law_script", v)]) ∧ ∀ base : Heap, K.In base → base.Ns mainGlobals mg → FnOk l.prog w K mg base CX0 7 fa fd ["_law_script"] (spLaw K) := by
  have e := hfa.symm.trans (PySem.W.mg_of X G a1)
  cases e
  have F1 := fun_mk (st := st_law) l1 c1 k1
  have F2 := fun_mk (st := st__law_heaps) l2 c2 k2
  have b2 := F2.binds (ps := ["_law_script"]) fun _ _ _ _ _ _ us hl => match us, hl with | [_], _ => rfl
  have F3 := fun_mk (st := st__law_cell_at) l3 c3 k3
  have b3 := F3.binds (ps := ["_law_script", "_law_k"]) fun _ _ _ _ _ _ us hl => match us, hl with | [_, _], _ => rfl
  have F4 := fun_mk (st := st__law_draw) l4 c4 k4
  have b4 := F4.binds (ps := ["_law_cell", "_law_k", "_law_many"]) fun _ _ _ _ _ _ us hl => match us, hl with | [_, _, _], _ => rfl
  have F5 := fun_mk (st := st_written) l5 c5 k5
  have b5 := F5.binds (ps := ["heaps"]) fun _ _ _ _ _ _ us hl => match us, hl with | [_], _ => rfl
  have F6 := fun_mk (st := st__law_right) l6 c6 k6
  have b6 := F6.binds (ps := ["_law_text"]) fun _ _ _ _ _ _ us hl => match us, hl with | [_], _ => rfl
  have F7 := fun_mk (st := st__law_refused) l7 c7 k7
  have b7 := F7.binds (ps := ["_law_text"]) fun _ _ _ _ _ _ us hl => match us, hl with | [_], _ => rfl
  have F8 := fun_mk (st := st__law_few) l8 c8 k8
  have b8 := F8.binds (ps := []) fun _ _ _ _ _ _ us hl => match us, hl with | [], _ => rfl
  have F9 := fun_mk (st := st_check_heaps) l9 c9 k9
  have b9 := F9.binds (ps := ["heaps"]) fun _ _ _ _ _ _ us hl => match us, hl with | [_], _ => rfl
  have F10 := fun_mk (st := st__law_in) l10 c10 k10
  have b10 := F10.binds (ps := ["_law_text"]) fun _ _ _ _ _ _ us hl => match us, hl with | [_], _ => rfl
  have F11 := fun_mk (st := st_read) l11 c11 k11
  have b11 := F11.binds (ps := ["text"]) fun _ _ _ _ _ _ us hl => match us, hl with | [_], _ => rfl
  have F12 := fun_mk (st := st_is_heap) l12 c12 k12
  have b12 := F12.binds (ps := ["thing"]) fun _ _ _ _ _ _ us hl => match us, hl with | [_], _ => rfl
  have F13 := fun_mk (st := st__law_number) l13 c13 k13
  have b13 := F13.binds (ps := ["_law_text"]) fun _ _ _ _ _ _ us hl => match us, hl with | [_], _ => rfl
  have F14 := fun_mk (st := st_number_in) l14 c14 k14
  have b14 := F14.binds (ps := ["word"]) fun _ _ _ _ _ _ us hl => match us, hl with | [_], _ => rfl
  have F15 := fun_mk (st := st_is_whole) l15 c15 k15
  have b15 := F15.binds (ps := ["thing"]) fun _ _ _ _ _ _ us hl => match us, hl with | [_], _ => rfl
  have T : Top K mg :=
    { d__law_heaps := ⟨_, _, F2, PySem.W.mg_of X G a2, b2⟩,
      d__law_cell_at := ⟨_, _, F3, PySem.W.mg_of X G a3, b3⟩,
      d__law_draw := ⟨_, _, F4, PySem.W.mg_of X G a4, b4⟩,
      d_written := ⟨_, _, F5, PySem.W.mg_of X G a5, b5⟩,
      d__law_right := ⟨_, _, F6, PySem.W.mg_of X G a6, b6⟩,
      d__law_refused := ⟨_, _, F7, PySem.W.mg_of X G a7, b7⟩,
      d__law_few := ⟨_, _, F8, PySem.W.mg_of X G a8, b8⟩,
      d_check_heaps := ⟨_, _, F9, PySem.W.mg_of X G a9, b9⟩,
      d__law_in := ⟨_, _, F10, PySem.W.mg_of X G a10, b10⟩,
      d_read := ⟨_, _, F11, PySem.W.mg_of X G a11, b11⟩,
      d_is_heap := ⟨_, _, F12, PySem.W.mg_of X G a12, b12⟩,
      d__law_number := ⟨_, _, F13, PySem.W.mg_of X G a13, b13⟩,
      d_number_in := ⟨_, _, F14, PySem.W.mg_of X G a14, b14⟩,
      d_is_whole := ⟨_, _, F15, PySem.W.mg_of X G a15, b15⟩,
      m_list := PySem.W.mg_none_of X G z_list,
      m_range := PySem.W.mg_none_of X G z_range,
      m_all := PySem.W.mg_none_of X G z_all,
      m_len := PySem.W.mg_none_of X G z_len,
      m_str := PySem.W.mg_none_of X G z_str,
      m_abs := PySem.W.mg_none_of X G z_abs,
      m_isinstance := PySem.W.mg_none_of X G z_isinstance,
      m_ValueError := PySem.W.mg_none_of X G z_ValueError,
      m_any := PySem.W.mg_none_of X G z_any,
      m_tuple := PySem.W.mg_none_of X G z_tuple,
      m_int := PySem.W.mg_none_of X G z_int,
      m_bool := PySem.W.mg_none_of X G z_bool }
  have TX : TopX K mg C_HeapError C_BadHeaps C_BadPlace C_BadText :=
    { x_HeapError := ⟨PySem.W.mg_of X G aC_HeapError, bX_HeapError, tX_HeapError, kX_HeapError, iX_HeapError, dX_HeapError, vX_HeapError, xX_HeapError, gX_HeapError, hX_HeapError, cX_HeapError, mX_HeapError⟩,
      x_BadHeaps := ⟨PySem.W.mg_of X G aC_BadHeaps, bX_BadHeaps, tX_BadHeaps, kX_BadHeaps, iX_BadHeaps, dX_BadHeaps, vX_BadHeaps, xX_BadHeaps, gX_BadHeaps, hX_BadHeaps, cX_BadHeaps, mX_BadHeaps⟩,
      x_BadPlace := ⟨PySem.W.mg_of X G aC_BadPlace, bX_BadPlace, tX_BadPlace, kX_BadPlace, iX_BadPlace, dX_BadPlace, vX_BadPlace, xX_BadPlace, gX_BadPlace, hX_BadPlace, cX_BadPlace, mX_BadPlace⟩,
      x_BadText := ⟨PySem.W.mg_of X G aC_BadText, bX_BadText, tX_BadText, kX_BadText, iX_BadText, dX_BadText, vX_BadText, xX_BadText, gX_BadText, hX_BadText, cX_BadText, mX_BadText⟩,
      s_HeapError_HeapError := sX_HeapError_HeapError,
      s_HeapError_BadHeaps := sX_HeapError_BadHeaps,
      s_HeapError_BadPlace := sX_HeapError_BadPlace,
      s_HeapError_BadText := sX_HeapError_BadText,
      s_BadHeaps_HeapError := sX_BadHeaps_HeapError,
      s_BadHeaps_BadHeaps := sX_BadHeaps_BadHeaps,
      s_BadHeaps_BadPlace := sX_BadHeaps_BadPlace,
      s_BadHeaps_BadText := sX_BadHeaps_BadText,
      s_BadPlace_HeapError := sX_BadPlace_HeapError,
      s_BadPlace_BadHeaps := sX_BadPlace_BadHeaps,
      s_BadPlace_BadPlace := sX_BadPlace_BadPlace,
      s_BadPlace_BadText := sX_BadPlace_BadText,
      s_BadText_HeapError := sX_BadText_HeapError,
      s_BadText_BadHeaps := sX_BadText_BadHeaps,
      s_BadText_BadPlace := sX_BadText_BadPlace,
      s_BadText_BadText := sX_BadText_BadText,
      sN := sXN,
      sT := sXT,
      k_MOST := ⟨_, PySem.W.mg_of X G kc_MOST⟩,
      k_FIGURES := ⟨_, PySem.W.mg_of X G kc_FIGURES⟩ }
  exact ⟨PySem.W.fnOf "law" "law" (defArgs st_law) (defBody st_law) (defScope st_law) .none kV1 dc1 pm1 an1 cd1 ct1, fun s v => .of_eq rfl, fun base _ _ => ok_law F1 T TX⟩
end Wk
open PySem PySem.W PyProof.Rows
set_option maxRecDepth 100000 in
set_option maxHeartbeats 0 in
theorem PySem.Challenge.cw_spreadrow_k06_written_holds : PySem.Challenge.rw_spreadrow_k06_written.Holds := by
  w_on; o_law; k_head; (case hw => w_witness2)
  k_fill
  refine L2.walk_of (l := PySem.Challenge.rw_spreadrow_k06_written) (n := 63) (k := 7) (x := "_law_script") (CX := fun _ => L2.CX0) (sp := fun w => Wk.spLaw _) rfl (by decide) rfl ⟨rfl, by decide, by decide⟩ (fun w h Y => PySem.W.kIn_of Y) ?F (fun _ _ a ns hl _ hS => ⟨a, ns, rfl, hS, hl, fun _ => rfl⟩) (fun _ _ _ _ _ h => h)
  case F =>
    intro w mg fa h KX G hmg
    refine' Wk.all_mk KX G hmg ?a1 ?l1 ?c1 ?k1 ?a2 ?l2 ?c2 ?k2 ?a3 ?l3 ?c3 ?k3 ?a4 ?l4 ?c4 ?k4 ?a5 ?l5 ?c5 ?k5 ?a6 ?l6 ?c6 ?k6 ?a7 ?l7 ?c7 ?k7 ?a8 ?l8 ?c8 ?k8 ?a9 ?l9 ?c9 ?k9 ?a10 ?l10 ?c10 ?k10 ?a11 ?l11 ?c11 ?k11 ?a12 ?l12 ?c12 ?k12 ?a13 ?l13 ?c13 ?k13 ?a14 ?l14 ?c14 ?k14 ?a15 ?l15 ?c15 ?k15 ?aC_HeapError ?bX_HeapError ?tX_HeapError ?kX_HeapError ?iX_HeapError ?dX_HeapError ?vX_HeapError ?xX_HeapError ?gX_HeapError ?hX_HeapError ?cX_HeapError ?mX_HeapError ?aC_BadHeaps ?bX_BadHeaps ?tX_BadHeaps ?kX_BadHeaps ?iX_BadHeaps ?dX_BadHeaps ?vX_BadHeaps ?xX_BadHeaps ?gX_BadHeaps ?hX_BadHeaps ?cX_BadHeaps ?mX_BadHeaps ?aC_BadPlace ?bX_BadPlace ?tX_BadPlace ?kX_BadPlace ?iX_BadPlace ?dX_BadPlace ?vX_BadPlace ?xX_BadPlace ?gX_BadPlace ?hX_BadPlace ?cX_BadPlace ?mX_BadPlace ?aC_BadText ?bX_BadText ?tX_BadText ?kX_BadText ?iX_BadText ?dX_BadText ?vX_BadText ?xX_BadText ?gX_BadText ?hX_BadText ?cX_BadText ?mX_BadText ?sX_HeapError_HeapError ?sX_HeapError_BadHeaps ?sX_HeapError_BadPlace ?sX_HeapError_BadText ?sX_BadHeaps_HeapError ?sX_BadHeaps_BadHeaps ?sX_BadHeaps_BadPlace ?sX_BadHeaps_BadText ?sX_BadPlace_HeapError ?sX_BadPlace_BadHeaps ?sX_BadPlace_BadPlace ?sX_BadPlace_BadText ?sX_BadText_HeapError ?sX_BadText_BadHeaps ?sX_BadText_BadPlace ?sX_BadText_BadText ?sXN ?sXT ?kc_MOST ?kc_FIGURES ?z_list ?z_range ?z_all ?z_len ?z_str ?z_abs ?z_isinstance ?z_ValueError ?z_any ?z_tuple ?z_int ?z_bool
    (case a1 => k_is)
    (case l1 => k_is)
    (case c1 => k_is)
    (case k1 => k_is)
    (case a2 => k_is)
    (case l2 => k_is)
    (case c2 => k_is)
    (case k2 => k_is)
    (case a3 => k_is)
    (case l3 => k_is)
    (case c3 => k_is)
    (case k3 => k_is)
    (case a4 => k_is)
    (case l4 => k_is)
    (case c4 => k_is)
    (case k4 => k_is)
    (case a5 => k_is)
    (case l5 => k_is)
    (case c5 => k_is)
    (case k5 => k_is)
    (case a6 => k_is)
    (case l6 => k_is)
    (case c6 => k_is)
    (case k6 => k_is)
    (case a7 => k_is)
    (case l7 => k_is)
    (case c7 => k_is)
    (case k7 => k_is)
    (case a8 => k_is)
    (case l8 => k_is)
    (case c8 => k_is)
    (case k8 => k_is)
    (case a9 => k_is)
    (case l9 => k_is)
    (case c9 => k_is)
    (case k9 => k_is)
    (case a10 => k_is)
    (case l10 => k_is)
    (case c10 => k_is)
    (case k10 => k_is)
    (case a11 => k_is)
    (case l11 => k_is)
    (case c11 => k_is)
    (case k11 => k_is)
    (case a12 => k_is)
    (case l12 => k_is)
    (case c12 => k_is)
    (case k12 => k_is)
    (case a13 => k_is)
    (case l13 => k_is)
    (case c13 => k_is)
    (case k13 => k_is)
    (case a14 => k_is)
    (case l14 => k_is)
    (case c14 => k_is)
    (case k14 => k_is)
    (case a15 => k_is)
    (case l15 => k_is)
    (case c15 => k_is)
    (case k15 => k_is)
    (case aC_HeapError => k_is)
    (case bX_HeapError => k_is)
    (case tX_HeapError => k_is)
    (case kX_HeapError => k_is)
    (case iX_HeapError => k_is)
    (case dX_HeapError => k_is)
    (case vX_HeapError => k_is)
    (case xX_HeapError => k_exc)
    (case gX_HeapError => k_is)
    (case hX_HeapError => k_is)
    (case cX_HeapError => k_is)
    (case mX_HeapError => k_is)
    (case aC_BadHeaps => k_is)
    (case bX_BadHeaps => k_is)
    (case tX_BadHeaps => k_is)
    (case kX_BadHeaps => k_is)
    (case iX_BadHeaps => k_is)
    (case dX_BadHeaps => k_is)
    (case vX_BadHeaps => k_is)
    (case xX_BadHeaps => k_exc)
    (case gX_BadHeaps => k_is)
    (case hX_BadHeaps => k_is)
    (case cX_BadHeaps => k_is)
    (case mX_BadHeaps => k_is)
    (case aC_BadPlace => k_is)
    (case bX_BadPlace => k_is)
    (case tX_BadPlace => k_is)
    (case kX_BadPlace => k_is)
    (case iX_BadPlace => k_is)
    (case dX_BadPlace => k_is)
    (case vX_BadPlace => k_is)
    (case xX_BadPlace => k_exc)
    (case gX_BadPlace => k_is)
    (case hX_BadPlace => k_is)
    (case cX_BadPlace => k_is)
    (case mX_BadPlace => k_is)
    (case aC_BadText => k_is)
    (case bX_BadText => k_is)
    (case tX_BadText => k_is)
    (case kX_BadText => k_is)
    (case iX_BadText => k_is)
    (case dX_BadText => k_is)
    (case vX_BadText => k_is)
    (case xX_BadText => k_exc)
    (case gX_BadText => k_is)
    (case hX_BadText => k_is)
    (case cX_BadText => k_is)
    (case mX_BadText => k_is)
    (case sX_HeapError_HeapError => k_is)
    (case sX_HeapError_BadHeaps => k_is)
    (case sX_HeapError_BadPlace => k_is)
    (case sX_HeapError_BadText => k_is)
    (case sX_BadHeaps_HeapError => k_is)
    (case sX_BadHeaps_BadHeaps => k_is)
    (case sX_BadHeaps_BadPlace => k_is)
    (case sX_BadHeaps_BadText => k_is)
    (case sX_BadPlace_HeapError => k_is)
    (case sX_BadPlace_BadHeaps => k_is)
    (case sX_BadPlace_BadPlace => k_is)
    (case sX_BadPlace_BadText => k_is)
    (case sX_BadText_HeapError => k_is)
    (case sX_BadText_BadHeaps => k_is)
    (case sX_BadText_BadPlace => k_is)
    (case sX_BadText_BadText => k_is)
    (case sXN => k_is)
    (case sXT => k_is)
    (case kc_MOST => k_is)
    (case kc_FIGURES => k_is)
    (case z_list => k_is)
    (case z_range => k_is)
    (case z_all => k_is)
    (case z_len => k_is)
    (case z_str => k_is)
    (case z_abs => k_is)
    (case z_isinstance => k_is)
    (case z_ValueError => k_is)
    (case z_any => k_is)
    (case z_tuple => k_is)
    (case z_int => k_is)
    (case z_bool => k_is)

