import PyProof.Rows.All
import Wide.All
import OpenK.AllK
import Wide.FinOn
import HandS.ForMost
import HandS.ForExc
import HandS.Wide
import HandS.WideBits
import HandS.SortRule
import HandS.Codes
import HandS.IsInst
import HandS.Style
import HandS.SetFor
import HandS.SortInts
import HandS.TupSets
import HandS.ExcIs
import HandS.TryMany
import HandS.StrMore
import HandS.Zip
import HandS.Evl
import HandS.Walk
import PySem.Challenge.RW_spreadrow_k02_whole_step_by_step
set_option Elab.async false
set_option linter.all false
set_option maxRecDepth 100000
set_option maxHeartbeats 4000000
/-! Plain law, part A: potentials of heaps on the line, legal giving (Reach), least action, uniqueness. No program in sight. -/
namespace Spr
/-- how many a place has, by the potential -/
def lap (F : Int → Int) (x : Int) : Int := F (x - 1) + F (x + 1) - 2 * F x
/-- a place gives once -/
def fire (F : Int → Int) (x : Int) : Int → Int := fun p => if p = x then F p + 1 else F p
inductive Reach : (Int → Int) → (Int → Int) → Prop where
  | refl (F : Int → Int) : Reach F F
  | step (F G : Int → Int) (x : Int) : 2 ≤ lap F x → Reach (fire F x) G → Reach F G
def padd (F C : Int → Int) : Int → Int := fun p => F p + C p
theorem Reach.of_eq {F G : Int → Int} (h : ∀ p, F p = G p) : Reach F G := by
  have e : F = G := funext h
  rw [e]
  exact .refl G
theorem Reach.trans {F G H : Int → Int} (a : Reach F G) (b : Reach G H) : Reach F H := by
  induction a with
  | refl F => exact b
  | step F G x h r ih => exact .step F H x h (ih b)
theorem Reach.le {F G : Int → Int} (a : Reach F G) : ∀ p, F p ≤ G p := by
  induction a with
  | refl F => intro p; exact Int.le_refl _
  | step F G x h r ih =>
    intro p
    have q := ih p
    unfold fire at q
    split at q <;> omega
theorem Reach.add {F G : Int → Int} (a : Reach F G) (C : Int → Int) (hC : ∀ x, 0 ≤ lap C x) : Reach (padd F C) (padd G C) := by
  induction a with
  | refl F => exact .refl _
  | step F G x h r ih =>
    refine .step _ _ x ?_ ?_
    · have q := hC x
      unfold lap padd at *
      omega
    · have e : fire (padd F C) x = padd (fire F x) C := by
        funext p
        unfold fire padd
        dsimp only
        split <;> omega
      rw [e]
      exact ih
theorem least {F G H : Int → Int} (a : Reach F G) (hF : ∀ p, F p ≤ H p) (hH : ∀ p, lap H p ≤ 1) : ∀ p, G p ≤ H p := by
  induction a with
  | refl F => exact hF
  | step F G x h r ih =>
    refine ih fun p => ?_
    unfold fire
    split
    · next e =>
      subst e
      have h1 := hF (p - 1)
      have h2 := hF (p + 1)
      have h3 := hF p
      have h4 := hH p
      unfold lap at *
      omega
    · exact hF p
theorem uniq {F G H : Int → Int} (a : Reach F G) (b : Reach F H) (hG : ∀ p, lap G p ≤ 1) (hH : ∀ p, lap H p ≤ 1) : G = H := by
  funext p
  have h1 := least a b.le hH p
  have h2 := least b a.le hG p
  omega
theorem Reach.eq_left {F F' G : Int → Int} (h : ∀ p, F p = F' p) (a : Reach F' G) : Reach F G := (Reach.of_eq h).trans a
theorem Reach.eq_right {F G G' : Int → Int} (a : Reach F G) (h : ∀ p, G p = G' p) : Reach F G' := a.trans (Reach.of_eq h)

/-! ### triangles -/
def tri (m : Int) : Int := m * (m + 1) / 2
theorem tri_two (m : Int) : 2 * tri m = m * (m + 1) := by
  unfold tri
  have h : m % 2 = 0 ∨ m % 2 = 1 := by omega
  have e : (m * (m + 1)) % 2 = 0 := by
    rcases h with h | h
    · rw [Int.mul_emod, h]; simp
    · rw [Int.mul_emod]
      have : (m + 1) % 2 = 0 := by omega
      rw [this]; simp
  omega
theorem tri_succ (m : Int) : tri (m + 1) = tri m + (m + 1) := by
  have h1 := tri_two m
  have h2 := tri_two (m + 1)
  have e : (m + 1) * (m + 1 + 1) = m * (m + 1) + 2 * (m + 1) := by grind
  omega
theorem tri_pred (m : Int) : tri (m - 1) = tri m - m := by
  have h := tri_succ (m - 1)
  rw [Int.sub_add_cancel] at h
  omega
theorem tri_zero : tri 0 = 0 := rfl
/-- the potential of one each at l and at all places above it -/
def up (l p : Int) : Int := if p ≤ l then 0 else tri (p - l)
theorem up_low {l p : Int} (h : p ≤ l) : up l p = 0 := by unfold up; rw [if_pos h]
theorem up_high {l p : Int} (h : l ≤ p) : up l p = tri (p - l) := by
  unfold up
  split
  · have : p - l = 0 := by omega
    rw [this]; rfl
  · rfl
/-- one at x -/
def chip (x p : Int) : Int := if p ≤ x then 0 else p - x
theorem chip_up (x p : Int) : chip x p = up x p - up (x + 1) p := by
  unfold chip
  by_cases h : p ≤ x
  · rw [if_pos h, up_low h, up_low (by omega)]; rfl
  · rw [if_neg h, up_high (by omega), up_high (by omega)]
    have := tri_pred (p - x)
    have e : p - (x + 1) = p - x - 1 := by omega
    rw [e]
    omega
theorem lap_up (l p : Int) : lap (up l) p = if l ≤ p then 1 else 0 := by
  unfold lap
  by_cases h : p + 1 ≤ l
  · rw [up_low h, up_low (by omega), up_low (by omega), if_neg (by omega)]; rfl
  · rw [if_pos (by omega), up_high (l := l) (p := p + 1) (by omega), up_high (l := l) (p := p) (by omega)]
    have e : p + 1 - l = p - l + 1 := by omega
    rw [e, tri_succ]
    by_cases h2 : l < p
    · rw [up_high (by omega)]
      have e2 : p - 1 - l = p - l - 1 := by omega
      rw [e2, tri_pred]
      omega
    · rw [up_low (by omega)]
      have e3 : p - l = 0 := by omega
      rw [e3, tri_zero]
      rfl
/-- one each from l to r -/
def iv (l r p : Int) : Int := up l p - up (r + 1) p
theorem iv_chip (x p : Int) : iv x x p = chip x p := (chip_up x p).symm
theorem lap_iv {l r : Int} (h : l ≤ r + 1) (p : Int) : lap (iv l r) p = if l ≤ p ∧ p ≤ r then 1 else 0 := by
  have e : lap (iv l r) p = lap (up l) p - lap (up (r + 1)) p := by
    unfold lap iv
    omega
  rw [e, lap_up, lap_up]
  by_cases h1 : l ≤ p
  · by_cases h2 : p ≤ r
    · rw [if_pos h1, if_neg (by omega), if_pos ⟨h1, h2⟩]; rfl
    · rw [if_pos h1, if_pos (by omega), if_neg (by omega)]; rfl
  · rw [if_neg h1, if_neg (by omega), if_neg (by omega)]; rfl
theorem lap_chip (x p : Int) : lap (chip x) p = if p = x then 1 else 0 := by
  have e : chip x = iv x x := funext fun p => (iv_chip x p).symm
  rw [e, lap_iv (by omega)]
  by_cases h : p = x
  · rw [if_pos h, if_pos (by omega)]
  · rw [if_neg h, if_neg (by omega)]
theorem lap_padd (F C : Int → Int) (p : Int) : lap (padd F C) p = lap F p + lap C p := by
  unfold lap padd
  omega
theorem chip_cvx (x p : Int) : 0 ≤ lap (chip x) p := by rw [lap_chip]; split <;> omega
theorem iv_cvx {l r : Int} (h : l ≤ r + 1) (p : Int) : 0 ≤ lap (iv l r) p := by rw [lap_iv h]; split <;> omega
theorem padd_cvx {F C : Int → Int} (hF : ∀ p, 0 ≤ lap F p) (hC : ∀ p, 0 ≤ lap C p) (p : Int) : 0 ≤ lap (padd F C) p := by
  rw [lap_padd]
  have := hF p
  have := hC p
  omega
theorem chip_fire (x p : Int) : chip (x - 1) p + chip (x + 1) p = 2 * chip x p + (if p = x then 1 else 0) := by
  unfold chip
  split <;> split <;> split <;> split <;> omega
/-- a full block with one more within it: what it gives way to -/
theorem block : ∀ (n : Nat) (l m x : Int), (m - l + 1).toNat = n → l ≤ x → x ≤ m →
    Reach (padd (iv l m) (chip x)) (fun p => iv (l - 1) (m + 1) p - chip (l + m - x) p) := by
  intro n
  induction n using Nat.strongRecOn with
  | ind n ih =>
    intro l m x hn hl hm
    -- give at x
    refine .step _ _ x ?_ ?_
    · rw [lap_padd, lap_iv (by omega), lap_chip, if_pos ⟨hl, hm⟩, if_pos rfl]
      omega
    -- the left side
    have a1 : Reach (padd (iv l (x - 1)) (chip (x - 1))) (fun p => iv (l - 1) x p - chip l p) := by
      by_cases hx : l = x
      · subst hx
        refine .of_eq fun p => ?_
        unfold padd iv
        rw [chip_up, chip_up, show l - 1 + 1 = l by omega]
        omega
      · have q := ih (x - 1 - l + 1).toNat (by omega) l (x - 1) (x - 1) rfl (by omega) (by omega)
        rw [show x - 1 + 1 = x by omega, show l + (x - 1) - (x - 1) = l by omega] at q
        exact q
    have a2 : Reach (padd (iv (l + 1) m) (chip (x + 1))) (fun p => iv l (m + 1) p - chip (l + m - x) p) := by
      by_cases hx : x = m
      · subst hx
        refine .of_eq fun p => ?_
        unfold padd iv
        rw [chip_up, chip_up, show l + x - x = l by omega]
        omega
      · have q := ih (m - (l + 1) + 1).toNat (by omega) (l + 1) m (x + 1) rfl (by omega) (by omega)
        rw [show l + 1 - 1 = l by omega, show l + 1 + m - (x + 1) = l + m - x by omega] at q
        exact q
    have b1 := a1.add (padd (chip (x + 1)) (iv (x + 1) m)) (padd_cvx (chip_cvx _) (iv_cvx (by omega)))
    have b2 := a2.add (chip (l - 1)) (chip_cvx _)
    refine Reach.eq_left ?_ (b1.trans (Reach.eq_left ?_ (b2.eq_right ?_)))
    · intro p
      have f := chip_fire x p
      unfold fire padd iv
      rw [chip_up x] at *
      rw [show x - 1 + 1 = x by omega]
      split
      · next e => rw [if_pos e] at f; omega
      · next e => rw [if_neg e] at f; omega
    · intro p
      unfold padd iv
      dsimp only
      rw [chip_up l, chip_up (l - 1), show l - 1 + 1 = l by omega]
      omega
    · intro p
      unfold padd iv
      dsimp only
      rw [chip_up (l - 1), show l - 1 + 1 = l by omega]
      omega
end Spr
/-! Plain law, part B: clusters (a stretch with at most one empty place), put together; ends_of. -/
namespace Spr
def cpot (l r : Int) (h : Option Int) (p : Int) : Int := match h with | none => iv l r p | some e => iv l r p - chip e p
def cmass (l r : Int) (h : Option Int) : Int := match h with | none => r - l + 1 | some _ => r - l
def cbal (l r : Int) (h : Option Int) : Int := match h with | none => tri r - tri (l - 1) | some e => tri r - tri (l - 1) - e
def Vc (l r : Int) (h : Option Int) : Prop := l ≤ r ∧ ∀ e, h = some e → l < e ∧ e < r
theorem cpot_some (l r e p : Int) : cpot l r (some e) p = iv l (e - 1) p + iv (e + 1) r p := by
  show iv l r p - chip e p = _
  rw [chip_up]
  unfold iv
  rw [show e - 1 + 1 = e by omega]
  omega
theorem cpot_cvx {l r : Int} {h : Option Int} (V : Vc l r h) (p : Int) : 0 ≤ lap (cpot l r h) p := by
  cases h with
  | none => exact iv_cvx (by have := V.1; omega) p
  | some e =>
    have e1 : cpot l r (some e) = padd (iv l (e - 1)) (iv (e + 1) r) := funext fun p => cpot_some l r e p
    have := V.2 e rfl
    rw [e1]
    exact padd_cvx (iv_cvx (by omega)) (iv_cvx (by omega)) p
/-- one put into a cluster -/
theorem add_in {l r : Int} {h : Option Int} {x : Int} (V : Vc l r h) (hl : l ≤ x) (hr : x ≤ r) :
    ∃ l' r' h', Vc l' r' h' ∧ Reach (padd (cpot l r h) (chip x)) (cpot l' r' h') ∧ cmass l' r' h' = cmass l r h + 1 ∧ cbal l' r' h' = cbal l r h + x ∧ l' ≤ l ∧ r ≤ r' ∧ x + 1 ≤ r' := by
  cases h with
  | none =>
    refine ⟨l - 1, r + 1, some (l + r - x), ⟨by omega, fun e he => ?_⟩, block _ l r x rfl hl hr, ?_, ?_, by omega, by omega, by omega⟩
    · cases he; omega
    · show r + 1 - (l - 1) = r - l + 1 + 1; omega
    · show tri (r + 1) - tri (l - 1 - 1) - (l + r - x) = tri r - tri (l - 1) + x
      rw [tri_succ, tri_pred (l - 1)]; omega
  | some e =>
    have hV := V.2 e rfl
    by_cases hx : x = e
    · subst hx
      refine ⟨l, r, none, ⟨by omega, fun e he => nomatch he⟩, .of_eq fun p => ?_, ?_, ?_, by omega, by omega, by omega⟩
      · show iv l r p - chip x p + chip x p = iv l r p; omega
      · show r - l + 1 = r - l + 1; omega
      · show tri r - tri (l - 1) = tri r - tri (l - 1) - x + x; omega
    · by_cases hx2 : x < e
      · have q := (block _ l (e - 1) x rfl hl (by omega)).add (iv (e + 1) r) (iv_cvx (by omega))
        refine ⟨l - 1, r, some (l + (e - 1) - x), ⟨by omega, fun e' he => ?_⟩, (Reach.eq_left ?_ (q.eq_right ?_)), ?_, ?_, by omega, by omega, by omega⟩
        · cases he; omega
        · intro p
          show cpot l r (some e) p + chip x p = iv l (e - 1) p + chip x p + iv (e + 1) r p
          rw [cpot_some]; omega
        · intro p
          show iv (l - 1) (e - 1 + 1) p - chip (l + (e - 1) - x) p + iv (e + 1) r p = iv (l - 1) r p - chip (l + (e - 1) - x) p
          unfold iv
          rw [show e - 1 + 1 = e by omega]; omega
        · show r - (l - 1) = r - l + 1; omega
        · show tri r - tri (l - 1 - 1) - (l + (e - 1) - x) = tri r - tri (l - 1) - e + x
          rw [tri_pred (l - 1)]; omega
      · have q := (block _ (e + 1) r x rfl (by omega) hr).add (iv l (e - 1)) (iv_cvx (by omega))
        refine ⟨l, r + 1, some (e + 1 + r - x), ⟨by omega, fun e' he => ?_⟩, (Reach.eq_left ?_ (q.eq_right ?_)), ?_, ?_, by omega, by omega, by omega⟩
        · cases he; omega
        · intro p
          show cpot l r (some e) p + chip x p = iv (e + 1) r p + chip x p + iv l (e - 1) p
          rw [cpot_some]; omega
        · intro p
          show iv (e + 1 - 1) (r + 1) p - chip (e + 1 + r - x) p + iv l (e - 1) p = iv l (r + 1) p - chip (e + 1 + r - x) p
          unfold iv
          rw [show e - 1 + 1 = e by omega, show e + 1 - 1 = e by omega]; omega
        · show r + 1 - l = r - l + 1; omega
        · show tri (r + 1) - tri (l - 1) - (e + 1 + r - x) = tri r - tri (l - 1) - e + x
          rw [tri_succ]; omega
/-- one put just behind a cluster -/
theorem add_end {l r : Int} {h : Option Int} (V : Vc l r h) :
    Vc l (r + 1) h ∧ Reach (padd (cpot l r h) (chip (r + 1))) (cpot l (r + 1) h) ∧ cmass l (r + 1) h = cmass l r h + 1 ∧ cbal l (r + 1) h = cbal l r h + (r + 1) := by
  have hp : ∀ p, iv l r p + chip (r + 1) p = iv l (r + 1) p := fun p => by
    rw [chip_up]; unfold iv; omega
  have hV := V.1
  cases h with
  | none =>
    refine ⟨⟨by omega, fun e he => nomatch he⟩, .of_eq hp, ?_, ?_⟩
    · show r + 1 - l + 1 = r - l + 1 + 1; omega
    · show tri (r + 1) - tri (l - 1) = tri r - tri (l - 1) + (r + 1)
      rw [tri_succ]; omega
  | some e =>
    have hE := V.2 e rfl
    refine ⟨⟨by omega, fun e' he => by cases he; omega⟩, .of_eq fun p => ?_, ?_, ?_⟩
    · have := hp p
      show iv l r p - chip e p + chip (r + 1) p = iv l (r + 1) p - chip e p
      omega
    · show r + 1 - l = r - l + 1; omega
    · show tri (r + 1) - tri (l - 1) - e = tri r - tri (l - 1) - e + (r + 1)
      rw [tri_succ]; omega
/-- a stretch put into a cluster -/
theorem add_iv : ∀ (n : Nat) (s t l r : Int) (h : Option Int), (t - s + 1).toNat = n → s ≤ t + 1 → Vc l r h → l ≤ s → s ≤ r + 1 →
    ∃ l' r' h', Vc l' r' h' ∧ Reach (padd (cpot l r h) (iv s t)) (cpot l' r' h') ∧ cmass l' r' h' = cmass l r h + (t - s + 1) ∧ cbal l' r' h' = cbal l r h + (tri t - tri (s - 1)) ∧ l' ≤ l ∧ r ≤ r' ∧ t ≤ r' ∧ (s ≤ r → t + 1 ≤ r') := by
  intro n
  induction n with
  | zero =>
    intro s t l r h hn hst V hl hr
    have e : s = t + 1 := by omega
    subst e
    refine ⟨l, r, h, V, .of_eq fun p => ?_, by omega, ?_, by omega, by omega, by omega, fun _ => by omega⟩
    · unfold padd iv; omega
    · rw [show t + 1 - 1 = t by omega]; omega
  | succ n ih =>
    intro s t l r h hn hst V hl hr
    have split : ∀ p, padd (cpot l r h) (iv s t) p = padd (padd (cpot l r h) (chip s)) (iv (s + 1) t) p := fun p => by
      unfold padd
      rw [chip_up]
      unfold iv
      omega
    have cv := iv_cvx (l := s + 1) (r := t) (by omega)
    have trS : tri s - tri (s - 1) = s := by rw [tri_pred]; omega
    by_cases hs : s ≤ r
    · obtain ⟨l1, r1, h1, V1, R1, m1, b1, e1, e2, e3⟩ := add_in V hl hs
      obtain ⟨l2, r2, h2, V2, R2, m2, b2, e4, e5, e6, e7⟩ := ih (s + 1) t l1 r1 h1 (by omega) (by omega) V1 (by omega) (by omega)
      refine ⟨l2, r2, h2, V2, .eq_left split ((R1.add _ cv).trans R2), by omega, ?_, by omega, by omega, by omega, fun _ => e7 (by omega)⟩
      rw [show s + 1 - 1 = s by omega] at b2
      omega
    · have e : s = r + 1 := by omega
      subst e
      obtain ⟨V1, R1, m1, b1⟩ := add_end V
      obtain ⟨l2, r2, h2, V2, R2, m2, b2, e4, e5, e6, e7⟩ := ih (r + 1 + 1) t l (r + 1) h (by omega) (by omega) V1 (by omega) (by omega)
      refine ⟨l2, r2, h2, V2, .eq_left split ((R1.add _ cv).trans R2), by omega, ?_, by omega, by omega, by omega, fun z => by omega⟩
      rw [show r + 1 + 1 - 1 = r + 1 by omega] at b2
      omega
theorem merge1 {l r a b : Int} {h g : Option Int} (V : Vc l r h) (W : Vc a b g) (h1 : l ≤ a) (h2 : a ≤ r) :
    ∃ l' r' h', Vc l' r' h' ∧ Reach (padd (cpot l r h) (cpot a b g)) (cpot l' r' h') ∧ cmass l' r' h' = cmass l r h + cmass a b g ∧ cbal l' r' h' = cbal l r h + cbal a b g ∧ l' ≤ l ∧ r ≤ r' ∧ b ≤ r' := by
  have hW := W.1
  cases g with
  | none =>
    obtain ⟨l1, r1, h1, V1, R1, m1, b1, e1, e2, e3, _⟩ := add_iv _ a b l r h rfl (by omega) V h1 (by omega)
    refine ⟨l1, r1, h1, V1, R1, ?_, ?_, e1, e2, e3⟩
    · show _ = _ + (b - a + 1); omega
    · show _ = _ + (tri b - tri (a - 1)); omega
  | some e =>
    have hE := W.2 e rfl
    obtain ⟨l1, r1, k1, V1, R1, m1, b1, e1, e2, e3, e4⟩ := add_iv _ a (e - 1) l r h rfl (by omega) V h1 (by omega)
    have e4' := e4 h2
    obtain ⟨l2, r2, k2, V2, R2, m2, b2, f1, f2, f3, _⟩ := add_iv _ (e + 1) b l1 r1 k1 rfl (by omega) V1 (by omega) (by omega)
    refine ⟨l2, r2, k2, V2, ?_, ?_, ?_, by omega, by omega, f3⟩
    · refine .eq_left (fun p => ?_) ((R1.add (iv (e + 1) b) (iv_cvx (by omega))).trans R2)
      show cpot l r h p + cpot a b (some e) p = cpot l r h p + iv a (e - 1) p + iv (e + 1) b p
      rw [cpot_some]; omega
    · show _ = _ + (b - a); omega
    · show _ = _ + (tri b - tri (a - 1) - e)
      rw [show e + 1 - 1 = e by omega] at b2
      rw [tri_pred e] at b1
      omega
/-- two clusters that meet are put together -/
theorem merge2 {l r a b : Int} {h g : Option Int} (V : Vc l r h) (W : Vc a b g) (h1 : a ≤ r) (h2 : l ≤ b) :
    ∃ l' r' h', Vc l' r' h' ∧ Reach (padd (cpot l r h) (cpot a b g)) (cpot l' r' h') ∧ cmass l' r' h' = cmass l r h + cmass a b g ∧ cbal l' r' h' = cbal l r h + cbal a b g ∧ l' ≤ l ∧ l' ≤ a ∧ r ≤ r' ∧ b ≤ r' := by
  by_cases c : l ≤ a
  · obtain ⟨l1, r1, k1, V1, R1, m1, b1, e1, e2, e3⟩ := merge1 V W c h1
    exact ⟨l1, r1, k1, V1, R1, m1, b1, e1, by omega, e2, e3⟩
  · obtain ⟨l1, r1, k1, V1, R1, m1, b1, e1, e2, e3⟩ := merge1 W V (by omega) h2
    refine ⟨l1, r1, k1, V1, .eq_left (fun p => ?_) R1, by omega, by omega, by omega, e1, e3, e2⟩
    unfold padd; omega

/-! ### ends_of -/
def endsOf (n b : Int) : Int × Int × Option Int :=
  if (b - n * (n + 1) / 2) % n = 0 then ((b - n * (n + 1) / 2) / n + 1, (b - n * (n + 1) / 2) / n + n, none)
  else ((b - n * (n + 1) / 2) / n + 1, (b - n * (n + 1) / 2) / n + 1 + n, some ((n + 1) * ((b - n * (n + 1) / 2) / n + 1) + n * (n + 1) / 2 - b))
theorem cmass_pos {l r : Int} {h : Option Int} (V : Vc l r h) : 0 < cmass l r h := by
  have := V.1
  cases h with
  | none => show 0 < r - l + 1; omega
  | some e => have := V.2 e rfl; show 0 < r - l; omega
theorem endsOf_is {l r : Int} {h : Option Int} (V : Vc l r h) : endsOf (cmass l r h) (cbal l r h) = (l, r, h) := by
  have hV := V.1
  cases h with
  | none =>
    show endsOf (r - l + 1) (tri r - tri (l - 1)) = (l, r, none)
    obtain ⟨n, rfl⟩ : ∃ n, r = n + l - 1 := ⟨r - l + 1, by omega⟩
    have hn : 0 < n := by omega
    rw [show n + l - 1 - l + 1 = n by omega]
    have e : tri (n + l - 1) - tri (l - 1) - n * (n + 1) / 2 = n * (l - 1) := by
      have t1 := tri_two (n + l - 1)
      have t2 := tri_two (l - 1)
      have t3 := tri_two n
      unfold tri at t3
      have : (n + l - 1) * (n + l - 1 + 1) - (l - 1) * (l - 1 + 1) - n * (n + 1) = 2 * (n * (l - 1)) := by grind
      omega
    unfold endsOf
    rw [e, Int.mul_emod_right, if_pos rfl, Int.mul_ediv_cancel_left _ (by omega)]
    rw [show l - 1 + 1 = l by omega, show l - 1 + n = n + l - 1 by omega]
  | some e =>
    have hE := V.2 e rfl
    show endsOf (r - l) (tri r - tri (l - 1) - e) = (l, r, some e)
    obtain ⟨n, rfl⟩ : ∃ n, r = n + l := ⟨r - l, by omega⟩
    rw [show n + l - l = n by omega]
    have hn : 0 < n := by omega
    have t1 := tri_two (n + l)
    have t2 := tri_two (l - 1)
    have t3 := tri_two n
    unfold tri at t3
    have e1 : tri (n + l) - tri (l - 1) - e - n * (n + 1) / 2 = (n + l - e) + n * (l - 1) := by
      have : (n + l) * (n + l + 1) - (l - 1) * (l - 1 + 1) - n * (n + 1) = 2 * (n + l + n * (l - 1)) := by grind
      omega
    have e2 : ((n + l - e) + n * (l - 1)) % n = n + l - e := by
      rw [Int.add_mul_emod_self_left, Int.emod_eq_of_lt (by omega) (by omega)]
    have e3 : ((n + l - e) + n * (l - 1)) / n = l - 1 := by
      rw [Int.add_mul_ediv_left _ _ (by omega), Int.ediv_eq_zero_of_lt (by omega) (by omega)]
      omega
    unfold endsOf
    rw [e1, e2, e3, if_neg (by omega), show l - 1 + 1 = l by omega]
    have e4 : (n + 1) * l + n * (n + 1) / 2 - (tri (n + l) - tri (l - 1) - e) = e := by
      have : (n + 1) * l = n * (l - 1) + n + l := by grind
      omega
    rw [e4, show l + n = n + l by omega]
/-- a cluster told by how many and the sum of places -/
def Good (n b : Int) : Prop := ∃ l r h, Vc l r h ∧ n = cmass l r h ∧ b = cbal l r h
theorem iv_pos_count (x : Int) : ∀ (n : Nat), 0 < n → ∃ l r h, Vc l r h ∧ Reach (fun p => n * chip x p) (cpot l r h) ∧ cmass l r h = n ∧ cbal l r h = n * x ∧ l ≤ x ∧ x ≤ r
  | 0, h => by omega
  | 1, _ => ⟨x, x, none, ⟨by omega, fun e he => nomatch he⟩, .of_eq fun p => by show (1 : Int) * chip x p = iv x x p; rw [iv_chip]; omega, by show x - x + 1 = 1; omega, by show tri x - tri (x - 1) = 1 * x; rw [tri_pred]; omega, by omega, by omega⟩
  | n + 2, _ => by
    obtain ⟨l, r, h, V, R, m, b, h1, h2⟩ := iv_pos_count x (n + 1) (by omega)
    obtain ⟨l1, r1, k1, V1, R1, m1, b1, e1, e2, e3⟩ := add_in V h1 h2
    refine ⟨l1, r1, k1, V1, .eq_left (fun p => ?_) ((R.add (chip x) (chip_cvx x)).trans R1), by omega, ?_, by omega, by omega⟩
    · show ((n + 2 : Nat) : Int) * chip x p = ((n + 1 : Nat) : Int) * chip x p + chip x p
      have : ((n + 2 : Nat) : Int) = ((n + 1 : Nat) : Int) + 1 := by omega
      rw [this, Int.add_mul]; omega
    · have : ((n + 2 : Nat) : Int) = ((n + 1 : Nat) : Int) + 1 := by omega
      rw [this, Int.add_mul, b1, b]; omega
/-- a heap alone -/
theorem heap_alone {x c : Int} (hc : 0 < c) : ∃ l r h, Vc l r h ∧ Reach (fun p => c * chip x p) (cpot l r h) ∧ cmass l r h = c ∧ cbal l r h = c * x ∧ l ≤ x ∧ x ≤ r := by
  obtain ⟨n, rfl⟩ : ∃ n : Nat, c = n := ⟨c.toNat, by omega⟩
  exact iv_pos_count x n (by omega)
end Spr
/-! Plain law, part C: the clusters as the program makes them (put together upon a pile), the stretches; that they are what is left. -/
namespace Spr
abbrev I2 := Int × Int
/-! ### order of heaps -/
def leP (a b : I2) : Bool := decide (a.1 < b.1) || (decide (a.1 = b.1) && decide (a.2 ≤ b.2))
theorem leP_iff {a b : I2} : leP a b = true ↔ a.1 < b.1 ∨ (a.1 = b.1 ∧ a.2 ≤ b.2) := by
  unfold leP
  rw [Bool.or_eq_true, Bool.and_eq_true, decide_eq_true_iff, decide_eq_true_iff, decide_eq_true_iff]
def srt (hs : List I2) : List I2 := hs.mergeSort leP
theorem srt_perm (hs : List I2) : (srt hs).Perm hs := List.mergeSort_perm hs leP
theorem srt_sorted (hs : List I2) : (srt hs).Pairwise (fun a b => leP a b = true) :=
  List.pairwise_mergeSort (le := leP) (fun a b c h1 h2 => by rw [leP_iff] at *; omega) (fun a b => by rw [Bool.or_eq_true, leP_iff, leP_iff]; omega) hs
theorem sorted_uniq : ∀ {l m : List I2}, l.Pairwise (fun a b => leP a b = true) → m.Pairwise (fun a b => leP a b = true) → l.Perm m → l = m
  | [], m, _, _, h => (List.Perm.eq_nil h.symm).symm
  | x :: l, [], _, _, h => absurd h.length_eq (by simp)
  | x :: l, y :: m, hl, hm, h => by
    have h1 : leP y x = true := by
      rcases List.mem_cons.mp (h.mem_iff.mp (List.mem_cons_self (a := x) (l := l))) with e | hx
      · rw [e, leP_iff]; omega
      · exact (List.pairwise_cons.mp hm).1 x hx
    have h2 : leP x y = true := by
      rcases List.mem_cons.mp (h.mem_iff.mpr (List.mem_cons_self (a := y) (l := m))) with e | hy
      · rw [e, leP_iff]; omega
      · exact (List.pairwise_cons.mp hl).1 y hy
    have e : x = y := by
      rw [leP_iff] at h1 h2
      exact Prod.ext (by omega) (by omega)
    subst e
    rw [sorted_uniq (List.pairwise_cons.mp hl).2 (List.pairwise_cons.mp hm).2 h.cons_inv]
theorem srt_of {hs l : List I2} (h1 : l.Perm hs) (h2 : l.Pairwise (fun a b => leP a b = true)) : l = srt hs :=
  sorted_uniq h2 (srt_sorted hs) (h1.trans (srt_perm hs).symm)
theorem srt_congr {hs hs' : List I2} (h : hs.Perm hs') : srt hs = srt hs' := srt_of ((srt_perm hs).trans h) (srt_sorted hs)

/-! ### the program's functions -/
def firstOf (c : I2) : Int := (endsOf c.1 c.2).1
def lastOf (c : I2) : Int := (endsOf c.1 c.2).2.1
def emptyOf (c : I2) : Option Int := (endsOf c.1 c.2).2.2
/-- a cluster upon the pile (its top first): put together while it meets the top -/
def absorb : List I2 → Int → Int → List I2
  | [], n, b => [(n, b)]
  | c :: st, n, b => if firstOf (n, b) ≤ lastOf c then absorb st (n + c.1) (b + c.2) else (n, b) :: c :: st
def put (st : List I2) (x : I2) : List I2 := if 0 < x.2 then absorb st x.2 (x.2 * x.1) else st
/-- clusters of heaps that are in order, the last one first -/
def clusS (hs : List I2) : List I2 := hs.foldl put []
def clus (hs : List I2) : List I2 := (clusS (srt hs)).reverse
def parts (c : I2) : List I2 := match emptyOf c with | none => [(firstOf c, lastOf c)] | some e => [(firstOf c, e - 1), (e + 1, lastOf c)]
def joinp (acc : List I2) (p : I2) : List I2 := match acc with | [] => [p] | q :: t => if q.2 + 1 = p.1 then (q.1, p.2) :: t else p :: q :: t
def stretches (hs : List I2) : List I2 := (((clus hs).flatMap parts).foldl joinp []).reverse

/-! ### potentials -/
/-- of heaps -/
def hpot : List I2 → Int → Int
  | [], _ => 0
  | h :: t, p => h.2 * chip h.1 p + hpot t p
/-- of stretches -/
def spot : List I2 → Int → Int
  | [], _ => 0
  | s :: t, p => iv s.1 s.2 p + spot t p
/-- of clusters -/
def kpot (c : I2) (p : Int) : Int := cpot (firstOf c) (lastOf c) (emptyOf c) p
def gpot : List I2 → Int → Int
  | [], _ => 0
  | c :: t, p => kpot c p + gpot t p
theorem hpot_append (a b : List I2) (p : Int) : hpot (a ++ b) p = hpot a p + hpot b p := by
  induction a with
  | nil => show hpot b p = 0 + hpot b p; omega
  | cons x a ih => show x.2 * chip x.1 p + hpot (a ++ b) p = x.2 * chip x.1 p + hpot a p + hpot b p; omega
theorem spot_append (a b : List I2) (p : Int) : spot (a ++ b) p = spot a p + spot b p := by
  induction a with
  | nil => show spot b p = 0 + spot b p; omega
  | cons x a ih => show iv x.1 x.2 p + spot (a ++ b) p = iv x.1 x.2 p + spot a p + spot b p; omega
theorem gpot_append (a b : List I2) (p : Int) : gpot (a ++ b) p = gpot a p + gpot b p := by
  induction a with
  | nil => show gpot b p = 0 + gpot b p; omega
  | cons x a ih => show kpot x p + gpot (a ++ b) p = kpot x p + gpot a p + gpot b p; omega
theorem spot_reverse (a : List I2) (p : Int) : spot a.reverse p = spot a p := by
  induction a with
  | nil => rfl
  | cons x a ih =>
    rw [List.reverse_cons, spot_append, ih]
    show spot a p + (iv x.1 x.2 p + 0) = iv x.1 x.2 p + spot a p
    omega
theorem gpot_reverse (a : List I2) (p : Int) : gpot a.reverse p = gpot a p := by
  induction a with
  | nil => rfl
  | cons x a ih =>
    rw [List.reverse_cons, gpot_append, ih]
    show gpot a p + (kpot x p + 0) = kpot x p + gpot a p
    omega
theorem hpot_perm {a b : List I2} (h : a.Perm b) (p : Int) : hpot a p = hpot b p := by
  induction h with
  | nil => rfl
  | cons x h ih => show _ + hpot _ p = _ + hpot _ p; rw [ih]
  | swap x y l => show _ + (_ + hpot l p) = _ + (_ + hpot l p); omega
  | trans h1 h2 i1 i2 => rw [i1, i2]

/-! ### clusters are good -/
theorem Good.at {c : I2} (g : Good c.1 c.2) : Vc (firstOf c) (lastOf c) (emptyOf c) ∧ c.1 = cmass (firstOf c) (lastOf c) (emptyOf c) ∧ c.2 = cbal (firstOf c) (lastOf c) (emptyOf c) := by
  obtain ⟨l, r, h, V, e1, e2⟩ := g
  have e : endsOf c.1 c.2 = (l, r, h) := by rw [e1, e2]; exact endsOf_is V
  unfold firstOf lastOf emptyOf
  rw [e]
  exact ⟨V, e1, e2⟩
theorem Good.mk {l r : Int} {h : Option Int} (V : Vc l r h) : Good (cmass l r h) (cbal l r h) := ⟨l, r, h, V, rfl, rfl⟩
theorem ends_at {l r : Int} {h : Option Int} (V : Vc l r h) {c : I2} (e1 : c.1 = cmass l r h) (e2 : c.2 = cbal l r h) : Good c.1 c.2 ∧ firstOf c = l ∧ lastOf c = r ∧ emptyOf c = h := by
  have e : endsOf c.1 c.2 = (l, r, h) := by rw [e1, e2]; exact endsOf_is V
  refine ⟨⟨l, r, h, V, e1, e2⟩, ?_, ?_, ?_⟩
  · unfold firstOf; rw [e]
  · unfold lastOf; rw [e]
  · unfold emptyOf; rw [e]
/-- a pile: good clusters, apart from one another, the last one first -/
structure Pile (st : List I2) : Prop where
  good : ∀ c ∈ st, Good c.1 c.2
  apart : st.Pairwise (fun c d => lastOf d < firstOf c)
theorem Pile.tail {c : I2} {st : List I2} (h : Pile (c :: st)) : Pile st := ⟨fun d m => h.good d (List.mem_cons_of_mem _ m), (List.pairwise_cons.mp h.apart).2⟩
theorem Pile.nil : Pile [] := ⟨fun _ m => (nomatch m), .nil⟩
theorem gpot_cvx : ∀ {st : List I2}, Pile st → ∀ p, 0 ≤ lap (gpot st) p
  | [], _, p => by show 0 ≤ (0 : Int) + 0 - 2 * 0; decide
  | c :: st, h, p => by
    have e : gpot (c :: st) = padd (kpot c) (gpot st) := rfl
    rw [e]
    exact padd_cvx (cpot_cvx (h.good c List.mem_cons_self).at.1) (gpot_cvx h.tail) p
theorem absorb_ok : ∀ (st : List I2) (n b : Int), Pile st → Good n b → (∀ c, st.head? = some c → firstOf c ≤ lastOf (n, b)) →
    Pile (absorb st n b) ∧ Reach (padd (gpot st) (kpot (n, b))) (gpot (absorb st n b)) ∧ ∃ c, (absorb st n b).head? = some c ∧ firstOf c ≤ firstOf (n, b)
  | [], n, b, _, g, _ => by
    refine ⟨⟨fun c m => ?_, List.pairwise_singleton _ _⟩, .of_eq fun p => ?_, (n, b), rfl, Int.le_refl _⟩
    · rw [List.mem_singleton.mp m]; exact g
    · show 0 + kpot (n, b) p = kpot (n, b) p + 0; omega
  | c :: st, n, b, P, g, hh => by
    have gc := P.good c List.mem_cons_self
    have V := gc.at
    have W := Good.at (c := (n, b)) g
    have V1 := V.1.1
    have W1 := W.1.1
    have hc := hh c rfl
    unfold absorb
    by_cases q : firstOf (n, b) ≤ lastOf c
    · rw [if_pos q]
      obtain ⟨l1, r1, k1, V2, R2, m2, b2, e1, e2, e3, e4⟩ := merge2 V.1 W.1 q hc
      obtain ⟨g2, f1, f2, f3⟩ := ends_at V2 (c := (n + c.1, b + c.2)) (by have := V.2.1; have := W.2.1; simp only at *; omega) (by have := V.2.2; have := W.2.2; simp only at *; omega)
      have k : kpot (n + c.1, b + c.2) = cpot l1 r1 k1 := by
        unfold kpot
        rw [f1, f2, f3]
      obtain ⟨P3, R3, d, hd, hd2⟩ := absorb_ok st (n + c.1) (b + c.2) P.tail g2 fun d hd => by
        have md : d ∈ st := List.mem_of_mem_head? hd
        have := (List.pairwise_cons.mp P.apart).1 d md
        have := ((P.tail).good d md).at.1.1
        rw [f2]
        omega
      refine ⟨P3, ?_, d, hd, by omega⟩
      rw [k] at R3
      refine .eq_left (fun p => ?_) (((R2.add (gpot st) (gpot_cvx P.tail)).eq_right fun p => ?_).trans R3)
      · show kpot c p + gpot st p + kpot (n, b) p = kpot c p + kpot (n, b) p + gpot st p; omega
      · show cpot l1 r1 k1 p + gpot st p = gpot st p + cpot l1 r1 k1 p; omega
    · rw [if_neg q]
      refine ⟨⟨fun d m => ?_, List.pairwise_cons.mpr ⟨fun d m => ?_, P.apart⟩⟩, .of_eq fun p => ?_, (n, b), rfl, Int.le_refl _⟩
      · rcases List.mem_cons.mp m with e | m
        · rw [e]; exact g
        · exact P.good d m
      · rcases List.mem_cons.mp m with e | m
        · rw [e]; omega
        · have := (List.pairwise_cons.mp P.apart).1 d m
          omega
      · show gpot (c :: st) p + kpot (n, b) p = kpot (n, b) p + gpot (c :: st) p; omega
theorem heap_good {x : I2} (hx : 0 < x.2) : Good x.2 (x.2 * x.1) ∧ Reach (fun p => x.2 * chip x.1 p) (kpot (x.2, x.2 * x.1)) ∧ firstOf (x.2, x.2 * x.1) ≤ x.1 ∧ x.1 ≤ lastOf (x.2, x.2 * x.1) := by
  obtain ⟨l, r, h, V, R, m, b, h1, h2⟩ := heap_alone (x := x.1) hx
  obtain ⟨g, f1, f2, f3⟩ := ends_at V (c := (x.2, x.2 * x.1)) m.symm b.symm
  refine ⟨g, ?_, by omega, by omega⟩
  have k : kpot (x.2, x.2 * x.1) = cpot l r h := by
    unfold kpot
    rw [f1, f2, f3]
  rw [k]
  exact R
theorem foldl_put : ∀ (hs st : List I2) (lo : Int), hs.Pairwise (fun a b => a.1 ≤ b.1) → (∀ h ∈ hs, lo ≤ h.1) → (∀ h ∈ hs, 0 ≤ h.2) → Pile st → (∀ c, st.head? = some c → firstOf c ≤ lo) →
    Pile (hs.foldl put st) ∧ Reach (padd (gpot st) (hpot hs)) (gpot (hs.foldl put st))
  | [], st, lo, _, _, _, P, _ => ⟨P, .of_eq fun p => by show gpot st p + 0 = gpot st p; omega⟩
  | x :: hs, st, lo, hp, hl, h0, P, hh => by
    obtain ⟨p1, p2⟩ := List.pairwise_cons.mp hp
    have hx := hl x List.mem_cons_self
    have hx0 := h0 x List.mem_cons_self
    rw [List.foldl_cons]
    by_cases q : 0 < x.2
    · obtain ⟨g, R, f1, f2⟩ := heap_good q
      obtain ⟨P1, R1, c, hc, hc2⟩ := absorb_ok st x.2 (x.2 * x.1) P g fun c hc => by have := hh c hc; omega
      have e : put st x = absorb st x.2 (x.2 * x.1) := if_pos q
      rw [e]
      obtain ⟨P2, R2⟩ := foldl_put hs _ x.1 p2 (fun h m => p1 h m) (fun h m => h0 h (List.mem_cons_of_mem _ m)) P1 fun d hd => by
        rw [hc] at hd; cases hd; omega
      refine ⟨P2, ?_⟩
      have hcv : ∀ p, 0 ≤ lap (hpot hs) p := by
        intro p
        have : ∀ l : List I2, (∀ h ∈ l, 0 ≤ h.2) → 0 ≤ lap (hpot l) p := by
          intro l
          induction l with
          | nil => intro _; show 0 ≤ (0 : Int) + 0 - 2 * 0; decide
          | cons y l ih =>
            intro hl
            have e : lap (hpot (y :: l)) p = y.2 * lap (chip y.1) p + lap (hpot l) p := by
              show (y.2 * _ + hpot l _) + (y.2 * _ + hpot l _) - 2 * (y.2 * _ + hpot l _) = _
              unfold lap
              rw [Int.mul_sub y.2, Int.mul_add y.2]
              have : y.2 * (2 * chip y.1 p) = 2 * (y.2 * chip y.1 p) := by rw [Int.mul_left_comm]
              omega
            rw [e, lap_chip]
            have := hl y List.mem_cons_self
            have := ih fun h m => hl h (List.mem_cons_of_mem _ m)
            split
            · omega
            · omega
        exact this hs fun h m => h0 h (List.mem_cons_of_mem _ m)
      have R3 := ((R.add (gpot st) (gpot_cvx P)).eq_right (G' := padd (gpot st) (kpot (x.2, x.2 * x.1))) fun p => by
        show kpot _ p + gpot st p = gpot st p + kpot _ p; omega).trans R1
      refine .eq_left (fun p => ?_) ((R3.add (hpot hs) hcv).trans R2)
      show gpot st p + (x.2 * chip x.1 p + hpot hs p) = x.2 * chip x.1 p + gpot st p + hpot hs p
      omega
    · have e : put st x = st := if_neg q
      rw [e]
      obtain ⟨P2, R2⟩ := foldl_put hs st lo p2 (fun h m => hl h (List.mem_cons_of_mem _ m)) (fun h m => h0 h (List.mem_cons_of_mem _ m)) P hh
      refine ⟨P2, .eq_left (fun p => ?_) R2⟩
      have : x.2 = 0 := by omega
      show gpot st p + (x.2 * chip x.1 p + hpot hs p) = gpot st p + hpot hs p
      rw [this, Int.zero_mul]
      omega
theorem clus_ok {hs : List I2} (h0 : ∀ h ∈ hs, 0 ≤ h.2) : Pile (clusS (srt hs)) ∧ Reach (hpot hs) (gpot (clusS (srt hs))) := by
  have sp := srt_sorted hs
  have s1 : (srt hs).Pairwise (fun a b => a.1 ≤ b.1) := sp.imp fun h => by rw [leP_iff] at h; omega
  cases e : srt hs with
  | nil =>
    have : hs = [] := by
      have := srt_perm hs
      rw [e] at this
      exact this.symm.eq_nil
    subst this
    exact ⟨.nil, .refl _⟩
  | cons x t =>
    rw [e] at s1
    have q := foldl_put (x :: t) [] x.1 s1 (fun h m => by
      rcases List.mem_cons.mp m with z | m
      · rw [z]; exact Int.le_refl _
      · exact (List.pairwise_cons.mp s1).1 h m) (fun h m => h0 h ((srt_perm hs).mem_iff.mp (by rw [e]; exact m))) .nil (fun c hc => by cases hc)
    refine ⟨q.1, .eq_left (fun p => ?_) q.2⟩
    rw [← hpot_perm (srt_perm hs) p, e]
    show _ = 0 + hpot (x :: t) p
    omega

/-! ### stretches -/
/-- stretches apart, with a place between -/
structure NF (l : List I2) : Prop where
  le : ∀ s ∈ l, s.1 ≤ s.2
  gap : l.Pairwise (fun a b => a.2 + 1 < b.1)
theorem spot_parts {c : I2} (p : Int) : spot (parts c) p = kpot c p := by
  unfold parts kpot
  cases emptyOf c with
  | none => show iv (firstOf c) (lastOf c) p + 0 = iv (firstOf c) (lastOf c) p; omega
  | some e =>
    rw [cpot_some]
    show iv (firstOf c) (e - 1) p + (iv (e + 1) (lastOf c) p + 0) = _
    omega
theorem joins_ok : ∀ (ps acc : List I2), (∀ s ∈ ps, s.1 ≤ s.2) → ps.Pairwise (fun a b => a.2 < b.1) → (∀ a ∈ acc, a.1 ≤ a.2) → acc.Pairwise (fun a b => b.2 + 1 < a.1) → (∀ a ∈ acc, ∀ s ∈ ps, a.2 < s.1) →
    (∀ a ∈ ps.foldl joinp acc, a.1 ≤ a.2) ∧ (ps.foldl joinp acc).Pairwise (fun a b => b.2 + 1 < a.1) ∧ ∀ p, spot (ps.foldl joinp acc) p = spot acc p + spot ps p
  | [], acc, _, _, h3, h4, _ => ⟨h3, h4, fun p => by show spot acc p = spot acc p + 0; omega⟩
  | s :: ps, acc, h1, h2, h3, h4, h5 => by
    rw [List.foldl_cons]
    obtain ⟨g1, g2⟩ := List.pairwise_cons.mp h2
    have hs := h1 s List.mem_cons_self
    have hps : ∀ q ∈ ps, q.1 ≤ q.2 := fun q m => h1 q (List.mem_cons_of_mem _ m)
    have key : (∀ a ∈ joinp acc s, a.1 ≤ a.2) ∧ (joinp acc s).Pairwise (fun a b => b.2 + 1 < a.1) ∧ (∀ a ∈ joinp acc s, ∀ q ∈ ps, a.2 < q.1) ∧ ∀ p, spot (joinp acc s) p = spot acc p + iv s.1 s.2 p := by
      cases acc with
      | nil =>
        refine ⟨fun a m => ?_, List.pairwise_singleton _ _, fun a m q mq => ?_, fun p => ?_⟩
        · rw [List.mem_singleton.mp m]; exact hs
        · rw [List.mem_singleton.mp m]; exact g1 q mq
        · show iv s.1 s.2 p + 0 = 0 + iv s.1 s.2 p; omega
      | cons q t =>
        have hq := h3 q List.mem_cons_self
        have hqs := h5 q List.mem_cons_self s List.mem_cons_self
        obtain ⟨k1, k2⟩ := List.pairwise_cons.mp h4
        have ht : ∀ a ∈ t, a.1 ≤ a.2 := fun a m => h3 a (List.mem_cons_of_mem _ m)
        by_cases e : q.2 + 1 = s.1
        · have ej : joinp (q :: t) s = (q.1, s.2) :: t := if_pos e
          rw [ej]
          refine ⟨fun a m => ?_, List.pairwise_cons.mpr ⟨fun a m => k1 a m, k2⟩, fun a m r mr => ?_, fun p => ?_⟩
          · rcases List.mem_cons.mp m with z | m
            · rw [z]; show q.1 ≤ s.2; omega
            · exact ht a m
          · rcases List.mem_cons.mp m with z | m
            · rw [z]; exact g1 r mr
            · exact h5 a (List.mem_cons_of_mem _ m) r (List.mem_cons_of_mem _ mr)
          · show iv q.1 s.2 p + spot t p = iv q.1 q.2 p + spot t p + iv s.1 s.2 p
            unfold iv
            rw [e]
            omega
        · have ej : joinp (q :: t) s = s :: q :: t := if_neg e
          rw [ej]
          refine ⟨fun a m => ?_, List.pairwise_cons.mpr ⟨fun a m => ?_, h4⟩, fun a m r mr => ?_, fun p => ?_⟩
          · rcases List.mem_cons.mp m with z | m
            · rw [z]; exact hs
            · exact h3 a m
          · rcases List.mem_cons.mp m with z | m
            · rw [z]; omega
            · have := k1 a m; omega
          · rcases List.mem_cons.mp m with z | m
            · rw [z]; exact g1 r mr
            · exact h5 a m r (List.mem_cons_of_mem _ mr)
          · show iv s.1 s.2 p + spot (q :: t) p = spot (q :: t) p + iv s.1 s.2 p
            omega
    obtain ⟨j1, j2, j3⟩ := joins_ok ps (joinp acc s) hps g2 key.1 key.2.1 key.2.2.1
    refine ⟨j1, j2, fun p => ?_⟩
    rw [j3, key.2.2.2]
    show spot acc p + iv s.1 s.2 p + spot ps p = spot acc p + (iv s.1 s.2 p + spot ps p)
    omega
theorem parts_ok {c : I2} (g : Good c.1 c.2) : (∀ s ∈ parts c, s.1 ≤ s.2 ∧ firstOf c ≤ s.1 ∧ s.2 ≤ lastOf c) ∧ (parts c).Pairwise (fun a b => a.2 < b.1) := by
  have V := g.at.1
  have V1 := V.1
  unfold parts
  cases e : emptyOf c with
  | none =>
    refine ⟨fun s m => ?_, List.pairwise_singleton _ _⟩
    rw [List.mem_singleton.mp m]
    exact ⟨V1, Int.le_refl _, Int.le_refl _⟩
  | some x =>
    have := V.2 x e
    refine ⟨fun s m => ?_, List.pairwise_cons.mpr ⟨fun s m => ?_, List.pairwise_singleton _ _⟩⟩
    · rcases List.mem_cons.mp m with z | m
      · rw [z]; simp only; omega
      · rw [List.mem_singleton.mp m]; simp only; omega
    · rw [List.mem_singleton.mp m]; simp only; omega
theorem flat_ok : ∀ {l : List I2}, (∀ c ∈ l, Good c.1 c.2) → l.Pairwise (fun c d => lastOf c < firstOf d) →
    (∀ s ∈ l.flatMap parts, s.1 ≤ s.2) ∧ (l.flatMap parts).Pairwise (fun a b => a.2 < b.1) ∧ ∀ p, spot (l.flatMap parts) p = gpot l p
  | [], _, _ => ⟨fun _ m => by simp at m, .nil, fun p => rfl⟩
  | c :: l, hg, hp => by
    obtain ⟨p1, p2⟩ := List.pairwise_cons.mp hp
    obtain ⟨i1, i2, i3⟩ := flat_ok (fun d m => hg d (List.mem_cons_of_mem _ m)) p2
    obtain ⟨k1, k2⟩ := parts_ok (hg c List.mem_cons_self)
    rw [List.flatMap_cons]
    refine ⟨fun s m => ?_, List.pairwise_append.mpr ⟨k2, i2, fun a ma b mb => ?_⟩, fun p => ?_⟩
    · rcases List.mem_append.mp m with m | m
      · exact (k1 s m).1
      · exact i1 s m
    · obtain ⟨d, md, mb⟩ := List.mem_flatMap.mp mb
      have := (parts_ok (hg d (List.mem_cons_of_mem _ md))).1 b mb
      have := p1 d md
      have := k1 a ma
      omega
    · rw [spot_append, spot_parts, i3]
      rfl
/-- the stretches are what is left -/
theorem stretches_ok {hs : List I2} (h0 : ∀ h ∈ hs, 0 ≤ h.2) : NF (stretches hs) ∧ Reach (hpot hs) (spot (stretches hs)) := by
  obtain ⟨P, R⟩ := clus_ok h0
  obtain ⟨f1, f2, f3⟩ := flat_ok (l := clus hs) (fun c m => P.good c (List.mem_reverse.mp m)) (List.pairwise_reverse.mpr P.apart)
  obtain ⟨j1, j2, j3⟩ := joins_ok ((clus hs).flatMap parts) [] f1 f2 (fun _ m => nomatch m) .nil (fun _ m => nomatch m)
  refine ⟨⟨fun s m => j1 s (List.mem_reverse.mp m), List.pairwise_reverse.mpr j2⟩, R.eq_right fun p => ?_⟩
  unfold stretches
  rw [spot_reverse, j3, f3]
  unfold clus
  rw [gpot_reverse]
  show _ = 0 + _
  omega
/-! ### what a place has -/
def hasB (l : List I2) (p : Int) : Bool := l.any fun s => decide (s.1 ≤ p) && decide (p ≤ s.2)
theorem hasB_iff {l : List I2} {p : Int} : hasB l p = true ↔ ∃ s ∈ l, s.1 ≤ p ∧ p ≤ s.2 := by
  unfold hasB
  rw [List.any_eq_true]
  constructor
  · rintro ⟨s, m, h⟩
    rw [Bool.and_eq_true, decide_eq_true_iff, decide_eq_true_iff] at h
    exact ⟨s, m, h⟩
  · rintro ⟨s, m, h⟩
    exact ⟨s, m, by rw [Bool.and_eq_true, decide_eq_true_iff, decide_eq_true_iff]; exact h⟩
theorem NF.tail {s : I2} {l : List I2} (h : NF (s :: l)) : NF l := ⟨fun d m => h.le d (List.mem_cons_of_mem _ m), (List.pairwise_cons.mp h.gap).2⟩
theorem lap_spot : ∀ {l : List I2}, NF l → ∀ p, lap (spot l) p = if hasB l p = true then 1 else 0
  | [], _, p => rfl
  | s :: l, h, p => by
    have e : spot (s :: l) = padd (iv s.1 s.2) (spot l) := rfl
    have hs := h.le s List.mem_cons_self
    rw [e, lap_padd, lap_iv (by omega), lap_spot h.tail]
    have g := (List.pairwise_cons.mp h.gap).1
    by_cases a : s.1 ≤ p ∧ p ≤ s.2
    · have b : ¬ hasB l p = true := fun q => by
        obtain ⟨d, md, h1, h2⟩ := hasB_iff.mp q
        have := g d md
        omega
      rw [if_pos a, if_neg b, if_pos (hasB_iff.mpr ⟨s, List.mem_cons_self, a⟩)]
      rfl
    · rw [if_neg a]
      by_cases b : hasB l p = true
      · obtain ⟨d, md, h1⟩ := hasB_iff.mp b
        rw [if_pos b, if_pos (hasB_iff.mpr ⟨d, List.mem_cons_of_mem _ md, h1⟩)]
        rfl
      · rw [if_neg b, if_neg]
        · rfl
        · intro q
          obtain ⟨d, md, h1⟩ := hasB_iff.mp q
          rcases List.mem_cons.mp md with z | md
          · rw [z] at h1; exact a h1
          · exact b (hasB_iff.mpr ⟨d, md, h1⟩)
theorem spot_stable {l : List I2} (h : NF l) (p : Int) : lap (spot l) p ≤ 1 := by
  rw [lap_spot h]
  split <;> omega
/-- stretches apart are told by what places have -/
theorem NF_uniq : ∀ {l m : List I2}, NF l → NF m → (∀ p, hasB l p = hasB m p) → l = m
  | [], [], _, _, _ => rfl
  | [], s :: m, _, hm, h => by
    have := h s.1
    have q : hasB (s :: m) s.1 = true := hasB_iff.mpr ⟨s, List.mem_cons_self, Int.le_refl _, hm.le s List.mem_cons_self⟩
    rw [q] at this
    cases this
  | s :: l, [], hl, _, h => by
    have := h s.1
    have q : hasB (s :: l) s.1 = true := hasB_iff.mpr ⟨s, List.mem_cons_self, Int.le_refl _, hl.le s List.mem_cons_self⟩
    rw [q] at this
    cases this
  | s :: l, t :: m, hl, hm, h => by
    have ls := hl.le s List.mem_cons_self
    have lt := hm.le t List.mem_cons_self
    have gl := (List.pairwise_cons.mp hl.gap).1
    have gm := (List.pairwise_cons.mp hm.gap).1
    have lle := hl.tail.le
    have mle := hm.tail.le
    have in1 : ∀ p, s.1 ≤ p → p ≤ s.2 → ∃ d ∈ t :: m, d.1 ≤ p ∧ p ≤ d.2 := fun p a b => hasB_iff.mp (by rw [← h p]; exact hasB_iff.mpr ⟨s, List.mem_cons_self, a, b⟩)
    have in2 : ∀ p, t.1 ≤ p → p ≤ t.2 → ∃ d ∈ s :: l, d.1 ≤ p ∧ p ≤ d.2 := fun p a b => hasB_iff.mp (by rw [h p]; exact hasB_iff.mpr ⟨t, List.mem_cons_self, a, b⟩)
    have lo1 : ∀ d ∈ t :: m, t.1 ≤ d.1 := fun d md => by
      rcases List.mem_cons.mp md with z | md
      · rw [z]; exact Int.le_refl _
      · have := gm d md; omega
    have lo2 : ∀ d ∈ s :: l, s.1 ≤ d.1 := fun d md => by
      rcases List.mem_cons.mp md with z | md
      · rw [z]; exact Int.le_refl _
      · have := gl d md; omega
    have e1 : s.1 = t.1 := by
      obtain ⟨d, md, h1, h2⟩ := in1 s.1 (Int.le_refl _) ls
      obtain ⟨d', md', h1', h2'⟩ := in2 t.1 (Int.le_refl _) lt
      have := lo1 d md
      have := lo2 d' md'
      omega
    have e2 : s.2 = t.2 := by
      rcases Int.lt_trichotomy s.2 t.2 with q | q | q
      · obtain ⟨d, md, h1, h2⟩ := in2 (s.2 + 1) (by omega) (by omega)
        rcases List.mem_cons.mp md with z | md
        · rw [z] at h2; omega
        · have := gl d md; omega
      · exact q
      · obtain ⟨d, md, h1, h2⟩ := in1 (t.2 + 1) (by omega) (by omega)
        rcases List.mem_cons.mp md with z | md
        · rw [z] at h2; omega
        · have := gm d md; omega
    have e : s = t := Prod.ext e1 e2
    subst e
    have ht : ∀ p, hasB l p = hasB m p := fun p => by
      have := h p
      by_cases a : s.1 ≤ p ∧ p ≤ s.2
      · have b1 : hasB l p = false := by
          cases z : hasB l p with
          | false => rfl
          | true =>
            obtain ⟨d, md, h1, h2⟩ := hasB_iff.mp z
            have := gl d md
            omega
        have b2 : hasB m p = false := by
          cases z : hasB m p with
          | false => rfl
          | true =>
            obtain ⟨d, md, h1, h2⟩ := hasB_iff.mp z
            have := gm d md
            omega
        rw [b1, b2]
      · have c : (decide (s.1 ≤ p) && decide (p ≤ s.2)) = false := by
          rw [← Bool.decide_and]
          exact decide_eq_false a
        have d1 : hasB (s :: l) p = hasB l p := by
          show ((decide (s.1 ≤ p) && decide (p ≤ s.2)) || hasB l p) = _
          rw [c]; rfl
        have d2 : hasB (s :: m) p = hasB m p := by
          show ((decide (s.1 ≤ p) && decide (p ≤ s.2)) || hasB m p) = _
          rw [c]; rfl
        rw [d1, d2] at this
        exact this
    rw [NF_uniq hl.tail hm.tail ht]
theorem NF_pot {l m : List I2} (hl : NF l) (hm : NF m) (h : ∀ p, spot l p = spot m p) : l = m := by
  refine NF_uniq hl hm fun p => ?_
  have a := lap_spot hl p
  have b := lap_spot hm p
  have e : spot l = spot m := funext h
  rw [e, b] at a
  cases h1 : hasB l p <;> cases h2 : hasB m p <;> simp [h1, h2] at a ⊢
/-- heaps that can come to one state come to one end -/
theorem stretches_uniq {hs : List I2} (h0 : ∀ h ∈ hs, 0 ≤ h.2) {m : List I2} (hm : NF m) (R : Reach (hpot hs) (spot m)) : stretches hs = m := by
  obtain ⟨N, R1⟩ := stretches_ok h0
  have := uniq R1 R (spot_stable N) (spot_stable hm)
  exact NF_pot N hm fun p => by rw [this]
theorem stretches_congr {hs hs' : List I2} (h0 : ∀ h ∈ hs, 0 ≤ h.2) (h0' : ∀ h ∈ hs', 0 ≤ h.2) (h : ∀ p, hpot hs p = hpot hs' p) : stretches hs = stretches hs' := by
  obtain ⟨N, R1⟩ := stretches_ok h0'
  exact stretches_uniq h0 N (R1.eq_left h)
end Spr
/-! Plain law, part D: how great the numbers of clusters get. -/
namespace Spr
def M1 : Nat := 2 ^ 200
def M2 : Nat := 2 ^ 400
theorem M12 : M1 * M1 = M2 := by decide +kernel
def sN : List I2 → Nat
  | [] => 0
  | c :: t => c.1.natAbs + sN t
def sB : List I2 → Nat
  | [] => 0
  | c :: t => c.2.natAbs + sB t
structure PW (i : Nat) (st : List I2) (n b : Int) : Prop where
  pos : ∀ c ∈ st, 0 < c.1
  n0 : 0 < n
  bn : sN st + n.natAbs ≤ i * M1
  bb : sB st + b.natAbs ≤ i * M2
  len : st.length + 1 ≤ i
structure PB (i : Nat) (st : List I2) : Prop where
  pos : ∀ c ∈ st, 0 < c.1
  bn : sN st ≤ i * M1
  bb : sB st ≤ i * M2
  len : st.length ≤ i
theorem PW.step {i : Nat} {c : I2} {st : List I2} {n b : Int} (h : PW i (c :: st) n b) : PW i st (n + c.1) (b + c.2) := by
  have hc := h.pos c List.mem_cons_self
  have h0 := h.n0
  have h1 := h.bn
  have h2 := h.bb
  have h3 := h.len
  unfold sN at h1
  unfold sB at h2
  rw [List.length_cons] at h3
  exact ⟨fun d m => h.pos d (List.mem_cons_of_mem _ m), by omega, by omega, by omega, by omega⟩
theorem PW.push {i : Nat} {st : List I2} {n b : Int} (h : PW i st n b) : PB i ((n, b) :: st) := by
  refine ⟨fun c m => ?_, ?_, ?_, h.len⟩
  · rcases List.mem_cons.mp m with e | m
    · rw [e]; exact h.n0
    · exact h.pos c m
  · have := h.bn
    show n.natAbs + sN st ≤ _
    omega
  · have := h.bb
    show b.natAbs + sB st ≤ _
    omega
theorem PW.absorb : ∀ {i : Nat} {st : List I2} {n b : Int}, PW i st n b → PB i (absorb st n b)
  | i, [], n, b, h => h.push
  | i, c :: st, n, b, h => by
    unfold Spr.absorb
    split
    · exact h.step.absorb
    · exact h.push
theorem PB.start {i : Nat} {st : List I2} {x : I2} (h : PB i st) (h0 : 0 < x.2) (w1 : x.1.natAbs < M1) (w2 : x.2.natAbs < M1) : PW (i + 1) st x.2 (x.2 * x.1) := by
  have e : (x.2 * x.1).natAbs ≤ M2 := by
    rw [Int.natAbs_mul, ← M12]
    exact Nat.mul_le_mul (Nat.le_of_lt w2) (Nat.le_of_lt w1)
  have h1 := h.bn
  have h2 := h.bb
  have h3 := h.len
  have e1 := Nat.succ_mul i M1
  have e2 := Nat.succ_mul i M2
  exact ⟨h.pos, h0, by rw [e1]; omega, by rw [e2]; omega, by omega⟩
theorem PB.put {i : Nat} {st : List I2} {x : I2} (h : PB i st) (w1 : x.1.natAbs < M1) (w2 : x.2.natAbs < M1) : PB (i + 1) (put st x) := by
  unfold Spr.put
  split
  · next h0 => exact (h.start h0 w1 w2).absorb
  · have h1 := h.bn
    have h2 := h.bb
    have h3 := h.len
    have e1 := Nat.succ_mul i M1
    have e2 := Nat.succ_mul i M2
    exact ⟨h.pos, by rw [e1]; omega, by rw [e2]; omega, by omega⟩
theorem PB.nil : PB 0 [] := ⟨fun _ m => (nomatch m), Nat.zero_le _, Nat.zero_le _, Nat.le_refl _⟩
theorem PW.w1 {i : Nat} {st : List I2} {n b : Int} (h : PW i st n b) (hi : i ≤ 1001) : n.natAbs < 2 ^ 220 := by
  have h1 := h.bn
  have h2 : i * M1 ≤ 1001 * M1 := Nat.mul_le_mul_right _ hi
  have z : 1001 * M1 < (2 : Nat) ^ 220 := by decide +kernel
  exact Nat.lt_of_le_of_lt (Nat.le_trans (Nat.le_trans (Nat.le_add_left _ _) h1) h2) z
theorem PW.w2 {i : Nat} {st : List I2} {n b : Int} (h : PW i st n b) (hi : i ≤ 1001) : b.natAbs < 2 ^ 460 := by
  have h1 := h.bb
  have h2 : i * M2 ≤ 1001 * M2 := Nat.mul_le_mul_right _ hi
  have z : 1001 * M2 < (2 : Nat) ^ 460 := by decide +kernel
  exact Nat.lt_of_le_of_lt (Nat.le_trans (Nat.le_trans (Nat.le_add_left _ _) h1) h2) z
theorem PB.fold : ∀ {l st : List I2} {i : Nat}, PB i st → (∀ h ∈ l, h.1.natAbs < M1) → (∀ h ∈ l, h.2.natAbs < M1) → PB (i + l.length) (l.foldl Spr.put st)
  | [], st, i, h, _, _ => h
  | x :: l, st, i, h, h1, h2 => by
    have := (h.put (h1 x List.mem_cons_self) (h2 x List.mem_cons_self)).fold (fun y m => h1 y (List.mem_cons_of_mem _ m)) (fun y m => h2 y (List.mem_cons_of_mem _ m))
    rw [List.foldl_cons, List.length_cons]
    rw [show i + (l.length + 1) = i + 1 + l.length by omega]
    exact this
end Spr
/-! Plain law, part E: the law's own clusters, put together two by two, are the program's. -/
namespace Spr
def lawOver (n b : Int) : Int × Int × Option Int :=
  if n * ((2 * b - n * (n - 1)) / (2 * n)) + n * (n - 1) / 2 = b then ((2 * b - n * (n - 1)) / (2 * n), (2 * b - n * (n - 1)) / (2 * n) + n - 1, none)
  else ((2 * b - n * (n - 1)) / (2 * n), (2 * b - n * (n - 1)) / (2 * n) + n, some ((2 * b - n * (n - 1)) / (2 * n) + n - (b - n * ((2 * b - n * (n - 1)) / (2 * n)) - n * (n - 1) / 2)))
theorem lawOver_is {n b : Int} (hn : 0 < n) : lawOver n b = endsOf n b := by
  obtain ⟨t, ht⟩ : ∃ t, n * (n + 1) / 2 = t := ⟨_, rfl⟩
  have h2 : 2 * t = n * (n + 1) := by rw [← ht]; exact tri_two n
  obtain ⟨t', ht'⟩ : ∃ t', n * (n - 1) / 2 = t' := ⟨_, rfl⟩
  have e0 : n * (n - 1) = 2 * (t - n) := by
    have : n * (n - 1) = n * (n + 1) - 2 * n := by grind
    omega
  have h3 : t' = t - n := by
    rw [← ht', e0]
    omega
  obtain ⟨q, hq⟩ : ∃ q, (b - t) / n = q := ⟨_, rfl⟩
  obtain ⟨r, hr⟩ : ∃ r, (b - t) % n = r := ⟨_, rfl⟩
  have hd : b - t = n * q + r := by
    have := Int.mul_ediv_add_emod (b - t) n
    rw [hq, hr] at this
    omega
  have r0 : 0 ≤ r := by rw [← hr]; exact Int.emod_nonneg _ (by omega)
  have r1 : r < n := by rw [← hr]; exact Int.emod_lt_of_pos _ hn
  have f1 : (2 * b - n * (n - 1)) / (2 * n) = q + 1 := by
    have e1 : 2 * b - n * (n - 1) = 2 * r + (2 * n) * (q + 1) := by
      rw [e0]
      have : (2 * n) * (q + 1) = 2 * (n * q) + 2 * n := by grind
      omega
    rw [e1, Int.add_mul_ediv_left _ _ (by omega), Int.ediv_eq_zero_of_lt (by omega) (by omega)]
    omega
  have e3 : n * (q + 1) = n * q + n := by grind
  unfold lawOver endsOf
  rw [ht, ht', f1, hq, hr, e3]
  by_cases c : r = 0
  · rw [if_pos c, if_pos (by omega)]
    have : q + 1 + n - 1 = q + n := by omega
    rw [this]
  · rw [if_neg c, if_neg (by omega)]
    have e4 : (n + 1) * (q + 1) = n * q + n + q + 1 := by grind
    have : q + 1 + n - (b - (n * q + n) - t') = (n + 1) * (q + 1) + t - b := by omega
    rw [this]
def raw (l : List I2) : List I2 := (l.filter fun h => decide (0 < h.2)).map fun h => (h.2, h.2 * h.1)
def piles (st l : List I2) : List I2 := l.foldl (fun st g => absorb st g.1 g.2) st
theorem raw_pos {x : I2} {l : List I2} (h : 0 < x.2) : raw (x :: l) = (x.2, x.2 * x.1) :: raw l := by
  unfold raw
  rw [List.filter_cons_of_pos (p := fun h : I2 => decide (0 < h.2)) (by exact decide_eq_true h)]
  rfl
theorem raw_neg {x : I2} {l : List I2} (h : ¬ 0 < x.2) : raw (x :: l) = raw l := by
  unfold raw
  rw [List.filter_cons_of_neg (p := fun h : I2 => decide (0 < h.2)) (by rw [decide_eq_false h]; decide)]
theorem fold_raw : ∀ (l st : List I2), l.foldl put st = piles st (raw l)
  | [], _ => rfl
  | x :: l, st => by
    rw [List.foldl_cons, fold_raw l]
    unfold put
    by_cases h : 0 < x.2
    · rw [if_pos h, raw_pos h]
      rfl
    · rw [if_neg h, raw_neg h]
theorem sim_apart {c g : I2} {st rest : List I2} (h : ¬ firstOf g ≤ lastOf c) : piles (c :: st) (g :: rest) = piles (g :: c :: st) rest := by
  show piles (absorb (c :: st) g.1 g.2) rest = _
  rw [absorb, if_neg h]
theorem sim_meet0 {c g : I2} {rest : List I2} (h : firstOf g ≤ lastOf c) : piles [c] (g :: rest) = piles [(c.1 + g.1, c.2 + g.2)] rest := by
  show piles (absorb [c] g.1 g.2) rest = _
  rw [absorb, if_pos h, absorb, Int.add_comm g.1, Int.add_comm g.2]
theorem sim_meet {c g p : I2} {st rest : List I2} (h : firstOf g ≤ lastOf c) : piles (c :: p :: st) (g :: rest) = piles (p :: st) ((c.1 + g.1, c.2 + g.2) :: rest) := by
  show piles (absorb (c :: p :: st) g.1 g.2) rest = piles (absorb (p :: st) (c.1 + g.1) (c.2 + g.2)) rest
  rw [absorb, if_pos h, Int.add_comm g.1, Int.add_comm g.2]
/-- where the law's loop stands: what lies ahead of its place is a pile -/
def LI (t G : List I2) (a : Nat) : Prop := (G = [] ∧ a = 0 ∧ t = []) ∨ ∃ st c rest, G = st.reverse ++ c :: rest ∧ a = st.length ∧ piles (c :: st) rest = t
theorem LI.start (l : List I2) : LI (piles [] l) l 0 := by
  cases l with
  | nil => exact .inl ⟨rfl, rfl, rfl⟩
  | cons c rest => exact .inr ⟨[], c, rest, rfl, rfl, rfl⟩
theorem LI.end_ {t G : List I2} {a : Nat} (h : LI t G a) (hl : ¬ a + 1 < G.length) : G = t.reverse := by
  rcases h with ⟨rfl, rfl, rfl⟩ | ⟨st, c, rest, rfl, rfl, rfl⟩
  · rfl
  · cases rest with
    | nil =>
      show _ = (c :: st).reverse
      rw [List.reverse_cons]
    | cons g rest =>
      rw [List.length_append, List.length_reverse, List.length_cons, List.length_cons] at hl
      omega
theorem set_mid {α : Type} (m : α) : ∀ (pre : List α) (c : α) (r : List α), (pre ++ c :: r).set pre.length m = pre ++ m :: r
  | [], _, _ => rfl
  | x :: pre, c, r => congrArg (x :: ·) (set_mid m pre c r)
theorem erase_mid {α : Type} : ∀ (pre : List α) (m g : α) (r : List α), (pre ++ m :: g :: r).eraseIdx (pre.length + 1) = pre ++ m :: r
  | [], _, _, _ => rfl
  | x :: pre, m, g, r => congrArg (x :: ·) (erase_mid pre m g r)
theorem get_mid {α : Type} : ∀ (pre : List α) (c : α) (r : List α), (pre ++ c :: r)[pre.length]? = some c
  | [], _, _ => rfl
  | x :: pre, c, r => get_mid pre c r
theorem get_mid1 {α : Type} : ∀ (pre : List α) (c g : α) (r : List α), (pre ++ c :: g :: r)[pre.length + 1]? = some g
  | [], _, _, _ => rfl
  | x :: pre, c, g, r => get_mid1 pre c g r
theorem sN_app (a b : List I2) : sN (a ++ b) = sN a + sN b := by
  induction a with
  | nil => show sN b = 0 + sN b; omega
  | cons x a ih => show x.1.natAbs + sN (a ++ b) = x.1.natAbs + sN a + sN b; omega
theorem sB_app (a b : List I2) : sB (a ++ b) = sB a + sB b := by
  induction a with
  | nil => show sB b = 0 + sB b; omega
  | cons x a ih => show x.2.natAbs + sB (a ++ b) = x.2.natAbs + sB a + sB b; omega
theorem PB.mid {i : Nat} {pre r : List I2} {c g : I2} (h : PB i (pre ++ c :: g :: r)) : PB i (pre ++ (c.1 + g.1, c.2 + g.2) :: r) := by
  have h1 := h.bn
  have h2 := h.bb
  have h3 := h.len
  rw [sN_app] at h1
  rw [sB_app] at h2
  rw [List.length_append, List.length_cons, List.length_cons] at h3
  have hc := h.pos c (by simp)
  have hg := h.pos g (by simp)
  refine ⟨fun x m => ?_, ?_, ?_, ?_⟩
  · rcases List.mem_append.mp m with m | m
    · exact h.pos x (List.mem_append_left _ m)
    · rcases List.mem_cons.mp m with e | m
      · rw [e]; show 0 < c.1 + g.1; omega
      · exact h.pos x (by simp [m])
  · rw [sN_app]
    have e : sN (c :: g :: r) = c.1.natAbs + (g.1.natAbs + sN r) := rfl
    show _ + ((c.1 + g.1).natAbs + sN r) ≤ _
    omega
  · rw [sB_app]
    have e : sB (c :: g :: r) = c.2.natAbs + (g.2.natAbs + sB r) := rfl
    show _ + ((c.2 + g.2).natAbs + sB r) ≤ _
    omega
  · rw [List.length_append, List.length_cons]
    omega
theorem LI.step {t G : List I2} {a i : Nat} (h : LI t G a) (hl : a + 1 < G.length) (B : PB i G) : ∃ c g, G[a]? = some c ∧ G[a + 1]? = some g ∧ 0 < c.1 ∧ 0 < g.1 ∧
    (firstOf g ≤ lastOf c → LI t ((G.set a (c.1 + g.1, c.2 + g.2)).eraseIdx (a + 1)) (a - 1) ∧ PB i ((G.set a (c.1 + g.1, c.2 + g.2)).eraseIdx (a + 1)) ∧ ((G.set a (c.1 + g.1, c.2 + g.2)).eraseIdx (a + 1)).length + 1 = G.length) ∧ (¬ firstOf g ≤ lastOf c → LI t G (a + 1)) := by
  rcases h with ⟨rfl, rfl, rfl⟩ | ⟨st, c, rest, rfl, rfl, rfl⟩
  · exact absurd hl (by decide)
  · cases rest with
    | nil =>
      rw [List.length_append, List.length_reverse, List.length_singleton] at hl
      omega
    | cons g rest =>
      have el : st.length = st.reverse.length := by rw [List.length_reverse]
      have e1 : (st.reverse ++ c :: g :: rest).set st.length (c.1 + g.1, c.2 + g.2) = st.reverse ++ (c.1 + g.1, c.2 + g.2) :: g :: rest := by
        rw [el]; exact set_mid _ _ _ _
      have e2 : ((st.reverse ++ c :: g :: rest).set st.length (c.1 + g.1, c.2 + g.2)).eraseIdx (st.length + 1) = st.reverse ++ (c.1 + g.1, c.2 + g.2) :: rest := by
        rw [e1, el]; exact erase_mid _ _ _ _
      refine ⟨c, g, ?_, ?_, B.pos c (by simp), B.pos g (by simp), fun hm => ⟨?_, ?_, ?_⟩, fun hm => ?_⟩
      · rw [el]; exact get_mid _ _ _
      · rw [el]; exact get_mid1 _ _ _ _
      · rw [e2]
        cases st with
        | nil => exact .inr ⟨[], _, rest, rfl, rfl, (sim_meet0 hm).symm⟩
        | cons p st =>
          refine .inr ⟨st, p, (c.1 + g.1, c.2 + g.2) :: rest, ?_, rfl, (sim_meet hm).symm⟩
          rw [List.reverse_cons, List.append_assoc]
          rfl
      · rw [e2]
        exact B.mid
      · rw [e2, List.length_append, List.length_append, List.length_cons, List.length_cons, List.length_cons]
        omega
      · refine .inr ⟨c :: st, g, rest, ?_, rfl, (sim_apart hm).symm⟩
        rw [List.reverse_cons, List.append_assoc]
        rfl
theorem PB.raw {l : List I2} (w1 : ∀ h ∈ l, h.1.natAbs < M1) (w2 : ∀ h ∈ l, h.2.natAbs < M1) : PB l.length (raw l) := by
  induction l with
  | nil => exact .nil
  | cons x l ih =>
    have q := ih (fun h m => w1 h (List.mem_cons_of_mem _ m)) (fun h m => w2 h (List.mem_cons_of_mem _ m))
    have h1 := q.bn
    have h2 := q.bb
    have h3 := q.len
    have e1 := Nat.succ_mul l.length M1
    have e2 := Nat.succ_mul l.length M2
    rw [List.length_cons]
    by_cases h : 0 < x.2
    · rw [raw_pos h]
      have e : (x.2 * x.1).natAbs ≤ M2 := by
        rw [Int.natAbs_mul, ← M12]
        exact Nat.mul_le_mul (Nat.le_of_lt (w2 x List.mem_cons_self)) (Nat.le_of_lt (w1 x List.mem_cons_self))
      have e4 := w2 x List.mem_cons_self
      refine ⟨fun c m => ?_, ?_, ?_, ?_⟩
      · rcases List.mem_cons.mp m with z | m
        · rw [z]; exact h
        · exact q.pos c m
      · rw [e1]
        show x.2.natAbs + sN _ ≤ _
        omega
      · rw [e2]
        show (x.2 * x.1).natAbs + sB _ ≤ _
        omega
      · rw [List.length_cons]
        omega
    · rw [raw_neg h]
      exact ⟨q.pos, by rw [e1]; omega, by rw [e2]; omega, by omega⟩
theorem PB.get {i : Nat} {G : List I2} {c : I2} (h : PB i G) (hi : i ≤ 1001) (m : c ∈ G) : 0 < c.1 ∧ c.1.natAbs < 2 ^ 220 ∧ c.2.natAbs < 2 ^ 460 := by
  obtain ⟨a, b, rfl⟩ := List.append_of_mem m
  have h1 := h.bn
  have h2 := h.bb
  rw [sN_app] at h1
  rw [sB_app] at h2
  have e1 : sN (c :: b) = c.1.natAbs + sN b := rfl
  have e2 : sB (c :: b) = c.2.natAbs + sB b := rfl
  have h3 : i * M1 ≤ 1001 * M1 := Nat.mul_le_mul_right _ hi
  have h4 : i * M2 ≤ 1001 * M2 := Nat.mul_le_mul_right _ hi
  have z1 : 1001 * M1 < (2 : Nat) ^ 220 := by decide +kernel
  have z2 : 1001 * M2 < (2 : Nat) ^ 460 := by decide +kernel
  refine ⟨h.pos c m, Nat.lt_of_le_of_lt ?_ z1, Nat.lt_of_le_of_lt ?_ z2⟩ <;> omega
end Spr
/-! Plain law, part F: what is counted over stretches; how great their ends get; another order. -/
namespace Spr
def tot (f : I2 → Int) (l : List I2) : Int := (l.map f).sum
theorem tot_nil (f : I2 → Int) : tot f [] = 0 := rfl
theorem tot_cons (f : I2 → Int) (x : I2) (l : List I2) : tot f (x :: l) = f x + tot f l := by
  unfold tot
  rw [List.map_cons, List.sum_cons]
theorem tot_app (f : I2 → Int) (a b : List I2) : tot f (a ++ b) = tot f a + tot f b := by
  induction a with
  | nil => rw [List.nil_append, tot_nil]; omega
  | cons x a ih => rw [List.cons_append, tot_cons, tot_cons, ih]; omega
theorem tot_rev (f : I2 → Int) (a : List I2) : tot f a.reverse = tot f a := by
  induction a with
  | nil => rfl
  | cons x a ih => rw [List.reverse_cons, tot_app, ih, tot_cons, tot_cons, tot_nil]; omega
theorem tot_perm (f : I2 → Int) {a b : List I2} (h : a.Perm b) : tot f a = tot f b := by
  induction h with
  | nil => rfl
  | cons x h ih => rw [tot_cons, tot_cons, ih]
  | swap x y l => rw [tot_cons, tot_cons, tot_cons, tot_cons]; omega
  | trans h1 h2 i1 i2 => rw [i1, i2]
theorem tot_congr {f g : I2 → Int} {l : List I2} (h : ∀ x ∈ l, f x = g x) : tot f l = tot g l := by
  induction l with
  | nil => rfl
  | cons x l ih => rw [tot_cons, tot_cons, h x List.mem_cons_self, ih fun y m => h y (List.mem_cons_of_mem _ m)]
theorem joins_tot {φ : I2 → Int} (hφ : ∀ a z y, φ (a, z) + φ (z + 1, y) = φ (a, y)) : ∀ ps acc : List I2, tot φ (ps.foldl joinp acc) = tot φ acc + tot φ ps
  | [], acc => by rw [tot_nil]; show tot φ acc = _; omega
  | s :: ps, acc => by
    rw [List.foldl_cons, joins_tot hφ ps, tot_cons]
    cases acc with
    | nil =>
      show tot φ [s] + _ = _
      rw [tot_cons, tot_nil]; omega
    | cons q t =>
      unfold joinp
      dsimp only
      split
      · next e =>
        rw [tot_cons, tot_cons]
        have := hφ q.1 q.2 s.2
        have e2 : φ (q.2 + 1, s.2) = φ s := by rw [e]
        have e3 : φ (q.1, q.2) = φ q := rfl
        omega
      · rw [tot_cons, tot_cons]; omega
theorem absorb_tot {g : I2 → Int} (hg : ∀ a b c d, g (a + c, b + d) = g (a, b) + g (c, d)) : ∀ (st : List I2) (n b : Int), tot g (absorb st n b) = tot g st + g (n, b)
  | [], n, b => by rw [absorb, tot_cons, tot_nil]; omega
  | c :: st, n, b => by
    rw [absorb]
    split
    · rw [absorb_tot hg st, hg, tot_cons]
      have : g (c.1, c.2) = g c := rfl
      omega
    · rw [tot_cons, tot_cons]; omega
theorem fold_tot {g : I2 → Int} (hg : ∀ a b c d, g (a + c, b + d) = g (a, b) + g (c, d)) : ∀ (l st : List I2), (∀ h ∈ l, 0 ≤ h.2) → tot g (l.foldl put st) = tot g st + tot (fun h => g (h.2, h.2 * h.1)) l
  | [], st, _ => by rw [tot_nil]; show tot g st = _; omega
  | x :: l, st, h0 => by
    rw [List.foldl_cons, fold_tot hg l _ fun h m => h0 h (List.mem_cons_of_mem _ m), tot_cons]
    unfold put
    split
    · rw [absorb_tot hg]; omega
    · have e : x.2 = 0 := by have := h0 x List.mem_cons_self; omega
      have z := hg 0 0 0 0
      rw [e, Int.zero_mul]
      have z2 : g (0 + 0, 0 + 0) = g (0, 0) := rfl
      omega
/-- what is counted over the stretches is what is counted over the heaps -/
theorem stretches_tot {φ g : I2 → Int} (hφ : ∀ a z y, φ (a, z) + φ (z + 1, y) = φ (a, y)) (hg : ∀ a b c d, g (a + c, b + d) = g (a, b) + g (c, d))
    (hp : ∀ c : I2, Good c.1 c.2 → tot φ (parts c) = g c) {hs : List I2} (h0 : ∀ h ∈ hs, 0 ≤ h.2) : tot φ (stretches hs) = tot (fun h => g (h.2, h.2 * h.1)) hs := by
  obtain ⟨P, _⟩ := clus_ok h0
  have e1 : tot φ (stretches hs) = tot φ ((clus hs).flatMap parts) := by
    unfold stretches
    rw [tot_rev, joins_tot hφ, tot_nil]; omega
  have e2 : ∀ l : List I2, (∀ c ∈ l, Good c.1 c.2) → tot φ (l.flatMap parts) = tot g l := by
    intro l
    induction l with
    | nil => intro _; rfl
    | cons c l ih =>
      intro hl
      rw [List.flatMap_cons, tot_app, tot_cons, hp c (hl c List.mem_cons_self), ih fun d m => hl d (List.mem_cons_of_mem _ m)]
  have e3 : tot g (clus hs) = tot g (clusS (srt hs)) := tot_rev g _
  have e4 : tot g (clusS (srt hs)) = tot (fun h => g (h.2, h.2 * h.1)) (srt hs) := by
    unfold clusS
    rw [fold_tot hg _ _ fun h m => h0 h ((srt_perm hs).mem_iff.mp m), tot_nil]; omega
  rw [e1, e2 (clus hs) fun c m => P.good c (List.mem_reverse.mp m), e3, e4, tot_perm _ (srt_perm hs)]
/-- as many -/
theorem mass_ok {hs : List I2} (h0 : ∀ h ∈ hs, 0 ≤ h.2) : tot (fun s => s.2 - s.1 + 1) (stretches hs) = tot (fun h => h.2) hs := by
  refine stretches_tot (g := fun c => c.1) (fun a z y => by show z - a + 1 + (y - (z + 1) + 1) = y - a + 1; omega) (fun a b c d => rfl) (fun c g => ?_) h0
  obtain ⟨V, e1, _⟩ := g.at
  unfold parts
  cases e : emptyOf c with
  | none =>
    rw [e] at e1
    rw [tot_cons, tot_nil]
    show lastOf c - firstOf c + 1 + 0 = c.1
    rw [e1]
    show _ = lastOf c - firstOf c + 1
    omega
  | some x =>
    rw [e] at e1
    rw [tot_cons, tot_cons, tot_nil]
    show x - 1 - firstOf c + 1 + (lastOf c - (x + 1) + 1 + 0) = c.1
    rw [e1]
    show _ = lastOf c - firstOf c
    omega
/-- the same sum of places -/
theorem mom_ok {hs : List I2} (h0 : ∀ h ∈ hs, 0 ≤ h.2) : tot (fun s => (s.1 + s.2) * (s.2 - s.1 + 1)) (stretches hs) = 2 * tot (fun h => h.1 * h.2) hs := by
  have q := stretches_tot (φ := fun s => (s.1 + s.2) * (s.2 - s.1 + 1)) (g := fun c => 2 * c.2) (fun a z y => by show (a + z) * (z - a + 1) + (z + 1 + y) * (y - (z + 1) + 1) = (a + y) * (y - a + 1); grind) (fun a b c d => by show 2 * (b + d) = 2 * b + 2 * d; omega) (fun c g => ?_) h0
  · rw [q]
    have e : ∀ l : List I2, tot (fun h => 2 * (h.2 * h.1)) l = 2 * tot (fun h => h.1 * h.2) l := by
      intro l
      induction l with
      | nil => rfl
      | cons x l ih => rw [tot_cons, tot_cons, ih, Int.mul_comm x.2]; omega
    exact e hs
  · obtain ⟨V, _, e2⟩ := g.at
    have t1 := tri_two (lastOf c)
    have t2 := tri_two (firstOf c - 1)
    unfold parts
    cases e : emptyOf c with
    | none =>
      rw [e] at e2
      rw [tot_cons, tot_nil]
      show (firstOf c + lastOf c) * (lastOf c - firstOf c + 1) + 0 = 2 * c.2
      rw [e2]
      show _ = 2 * (tri (lastOf c) - tri (firstOf c - 1))
      have : (firstOf c + lastOf c) * (lastOf c - firstOf c + 1) = lastOf c * (lastOf c + 1) - (firstOf c - 1) * (firstOf c - 1 + 1) := by grind
      omega
    | some x =>
      rw [e] at e2
      rw [tot_cons, tot_cons, tot_nil]
      show (firstOf c + (x - 1)) * (x - 1 - firstOf c + 1) + ((x + 1 + lastOf c) * (lastOf c - (x + 1) + 1) + 0) = 2 * c.2
      rw [e2]
      show _ = 2 * (tri (lastOf c) - tri (firstOf c - 1) - x)
      have : (firstOf c + (x - 1)) * (x - 1 - firstOf c + 1) + (x + 1 + lastOf c) * (lastOf c - (x + 1) + 1) = lastOf c * (lastOf c + 1) - (firstOf c - 1) * (firstOf c - 1 + 1) - 2 * x := by grind
      omega
/-- another order of the heaps -/
theorem stretches_perm {hs hs' : List I2} (h : hs.Perm hs') : stretches hs = stretches hs' := by
  unfold stretches clus
  rw [srt_congr h]
/-! ### how great -/
theorem joins_all {p : Int → Prop} : ∀ ps acc : List I2, (∀ s ∈ ps, p s.1 ∧ p s.2) → (∀ s ∈ acc, p s.1 ∧ p s.2) → ∀ s ∈ ps.foldl joinp acc, p s.1 ∧ p s.2
  | [], acc, _, h2 => h2
  | s :: ps, acc, h1, h2 => by
    rw [List.foldl_cons]
    have hs := h1 s List.mem_cons_self
    refine joins_all ps _ (fun q m => h1 q (List.mem_cons_of_mem _ m)) fun q m => ?_
    cases acc with
    | nil =>
      have : q = s := List.mem_singleton.mp m
      rw [this]; exact hs
    | cons u t =>
      unfold joinp at m
      dsimp only at m
      split at m
      · rcases List.mem_cons.mp m with z | m
        · rw [z]; exact ⟨(h2 u List.mem_cons_self).1, hs.2⟩
        · exact h2 q (List.mem_cons_of_mem _ m)
      · rcases List.mem_cons.mp m with z | m
        · rw [z]; exact hs
        · exact h2 q m
theorem stretches_in {hs : List I2} (h0 : ∀ h ∈ hs, 0 ≤ h.2) {p : Int → Prop} (hp : ∀ c ∈ clus hs, ∀ x, firstOf c ≤ x → x ≤ lastOf c → p x) : ∀ s ∈ stretches hs, p s.1 ∧ p s.2 := by
  obtain ⟨P, _⟩ := clus_ok h0
  intro s m
  refine joins_all ((clus hs).flatMap parts) [] (fun q mq => ?_) (fun q mq => nomatch mq) s (List.mem_reverse.mp m)
  obtain ⟨c, mc, mq⟩ := List.mem_flatMap.mp mq
  have := (parts_ok (P.good c (List.mem_reverse.mp mc))).1 q mq
  exact ⟨hp c mc _ (by omega) (by omega), hp c mc _ (by omega) (by omega)⟩
theorem ends_wd {n b : Int} (hn : 0 < n) (w1 : n.natAbs < 2 ^ 220) (w2 : b.natAbs < 2 ^ 460) : (firstOf (n, b)).natAbs < 2 ^ 700 ∧ (lastOf (n, b)).natAbs < 2 ^ 700 := by
  have d1 : n * (n + 1) / 2 = tri n := rfl
  have t0 : 0 ≤ tri n := by
    have := tri_two n
    have := Int.mul_nonneg (a := n) (b := n + 1) (by omega) (by omega)
    omega
  have t1 : tri n ≤ n * n := by
    have := tri_two n
    have e : n * (n + 1) = n * n + n := by grind
    have : n ≤ n * n := by
      have := Int.mul_le_mul_of_nonneg_left (a := 1) (b := n) (c := n) (by omega) (by omega)
      omega
    omega
  have t2 : (n * n).natAbs < 2 ^ 440 := by
    rw [Int.natAbs_mul, show (2 : Nat) ^ 440 = 2 ^ 220 * 2 ^ 220 by decide +kernel]
    exact Nat.mul_lt_mul'' w1 w1
  have t3 : (b - tri n).natAbs ≤ b.natAbs + (n * n).natAbs := by omega
  have t4 : ((b - tri n) / n).natAbs ≤ (b - tri n).natAbs := Int.natAbs_ediv_le_natAbs _ _
  have z : (2 : Nat) ^ 460 + 2 ^ 440 + 2 ^ 220 + 1 < 2 ^ 700 := by decide +kernel
  unfold firstOf lastOf endsOf
  rw [d1]
  generalize (2 : Nat) ^ 700 = Z at *
  generalize (2 : Nat) ^ 460 = Z1 at *
  generalize (2 : Nat) ^ 440 = Z2 at *
  generalize (2 : Nat) ^ 220 = Z3 at *
  dsimp only
  split
  · dsimp only
    generalize (b - tri n) / n = y at *
    omega
  · dsimp only
    generalize (b - tri n) / n = y at *
    omega
theorem abs_mid {a b x : Int} {N : Nat} (h1 : a ≤ x) (h2 : x ≤ b) (ha : a.natAbs < N) (hb : b.natAbs < N) : x.natAbs < N := by omega
end Spr
/-! Plain law, part G: how often a place gives, how often all do. -/
namespace Spr
def gaveI (hs : List I2) (p : Int) : Int := spot (stretches hs) p - hpot hs p
theorem gave_nonneg {hs : List I2} (h0 : ∀ h ∈ hs, 0 ≤ h.2) (p : Int) : 0 ≤ gaveI hs p := by
  have := (stretches_ok h0).2.le p
  unfold gaveI
  omega
/-! ### as the program reckons -/
def endI (l p : Int) : Int := if p - 1 < l then p - 1 else l
def ivc (f l p : Int) : Int := if f ≤ endI l p then (endI l p - f + 1) * p - (endI l p - f + 1) * (f + endI l p) / 2 else 0
theorem ivc_is {f l : Int} (h : f ≤ l) (p : Int) : ivc f l p = iv f l p := by
  unfold ivc endI
  by_cases c1 : p - 1 < l
  · rw [if_pos c1]
    by_cases c2 : f ≤ p - 1
    · rw [if_pos c2]
      unfold iv
      rw [up_high (by omega), up_low (by omega)]
      obtain ⟨m, hm⟩ : ∃ m, p = f + m := ⟨p - f, by omega⟩
      subst hm
      have t := tri_two m
      have e1 : f + m - 1 - f + 1 = m := by omega
      have e2 : f + (f + m - 1) = 2 * f + m - 1 := by omega
      have e3 : f + m - f = m := by omega
      rw [e1, e2, e3]
      have e4 : m * (2 * f + m - 1) = 2 * (m * (f + m)) - m * (m + 1) := by grind
      rw [e4]
      omega
    · rw [if_neg c2]
      unfold iv
      rw [up_low (by omega), up_low (by omega)]
      rfl
  · rw [if_neg c1, if_pos h]
    unfold iv
    rw [up_high (by omega), up_high (by omega)]
    obtain ⟨m, hm⟩ : ∃ m, l = f + m - 1 := ⟨l - f + 1, by omega⟩
    subst hm
    obtain ⟨u, hu⟩ : ∃ u, p = f + m + u := ⟨p - f - m, by omega⟩
    subst hu
    have t1 := tri_two (m + u)
    have t2 := tri_two u
    have e1 : f + m - 1 - f + 1 = m := by omega
    have e2 : f + (f + m - 1) = 2 * f + m - 1 := by omega
    have e3 : f + m + u - f = m + u := by omega
    have e5 : f + m + u - (f + m - 1 + 1) = u := by omega
    rw [e1, e2, e3, e5]
    have e4 : m * (2 * f + m - 1) = 2 * (m * (f + m + u)) - ((m + u) * (m + u + 1) - u * (u + 1)) := by grind
    rw [e4]
    omega
def chipc (s p c : Int) : Int := if s < p then (p - s) * c else 0
theorem chipc_is (s p c : Int) : chipc s p c = c * chip s p := by
  unfold chipc chip
  by_cases h : s < p
  · rw [if_pos h, if_neg (by omega), Int.mul_comm]
  · rw [if_neg h, if_pos (by omega), Int.mul_zero]
theorem spot_snoc (l : List I2) (s : I2) (p : Int) : spot (l ++ [s]) p = spot l p + iv s.1 s.2 p := by
  rw [spot_append]
  show _ + (iv s.1 s.2 p + 0) = _
  omega
theorem hpot_snoc (l : List I2) (h : I2) (p : Int) : hpot (l ++ [h]) p = hpot l p + h.2 * chip h.1 p := by
  rw [hpot_append]
  show _ + (h.2 * chip h.1 p + 0) = _
  omega
/-! ### what it has in the end -/
def hadI (hs : List I2) (p : Int) : Int := tot (fun h => h.2) (hs.filter fun h => decide (h.1 = p))
theorem lap_hpot : ∀ (hs : List I2) (p : Int), lap (hpot hs) p = hadI hs p
  | [], p => rfl
  | h :: t, p => by
    have e : lap (hpot (h :: t)) p = h.2 * lap (chip h.1) p + lap (hpot t) p := by
      show (h.2 * _ + hpot t _) + (h.2 * _ + hpot t _) - 2 * (h.2 * _ + hpot t _) = _
      unfold lap
      rw [Int.mul_sub h.2, Int.mul_add h.2]
      have : h.2 * (2 * chip h.1 p) = 2 * (h.2 * chip h.1 p) := by rw [Int.mul_left_comm]
      omega
    rw [e, lap_chip, lap_hpot t]
    unfold hadI
    by_cases c : h.1 = p
    · rw [if_pos c.symm, List.filter_cons_of_pos (p := fun h : I2 => decide (h.1 = p)) (by exact decide_eq_true c), tot_cons, Int.mul_one]
    · rw [if_neg (fun z => c z.symm), List.filter_cons_of_neg (p := fun h : I2 => decide (h.1 = p)) (by rw [decide_eq_false c]; decide), Int.mul_zero]
      omega
theorem gave_lap {hs : List I2} (h0 : ∀ h ∈ hs, 0 ≤ h.2) (p : Int) : hadI hs p + gaveI hs (p - 1) + gaveI hs (p + 1) - 2 * gaveI hs p = if hasB (stretches hs) p = true then 1 else 0 := by
  rw [← lap_spot (stretches_ok h0).1, ← lap_hpot]
  unfold lap gaveI
  omega
/-! ### far out -/
theorem hpot_nonneg {hs : List I2} (h0 : ∀ h ∈ hs, 0 ≤ h.2) (p : Int) : 0 ≤ hpot hs p := by
  induction hs with
  | nil => exact Int.le_refl 0
  | cons h t ih =>
    have h1 := ih fun x m => h0 x (List.mem_cons_of_mem _ m)
    have h2 := h0 h List.mem_cons_self
    have h3 : 0 ≤ chip h.1 p := by unfold chip; split <;> omega
    have h4 := Int.mul_nonneg h2 h3
    show 0 ≤ h.2 * chip h.1 p + hpot t p
    omega
theorem spot_left {l : List I2} {p : Int} (h : ∀ s ∈ l, s.1 ≤ s.2 ∧ p ≤ s.1) : spot l p = 0 := by
  induction l with
  | nil => rfl
  | cons s l ih =>
    have h1 := ih fun x m => h x (List.mem_cons_of_mem _ m)
    obtain ⟨h2, h3⟩ := h s List.mem_cons_self
    show iv s.1 s.2 p + spot l p = 0
    unfold iv
    rw [up_low (by omega), up_low (by omega), h1]
    rfl
theorem gave_left {hs : List I2} (h0 : ∀ h ∈ hs, 0 ≤ h.2) {p : Int} (h : ∀ s ∈ stretches hs, p ≤ s.1) : gaveI hs p = 0 := by
  have h1 := gave_nonneg h0 p
  have h2 := hpot_nonneg h0 p
  have h3 := spot_left (l := stretches hs) (p := p) fun s m => ⟨(stretches_ok h0).1.le s m, h s m⟩
  unfold gaveI at *
  omega
theorem up_high1 {l p : Int} (h : l ≤ p + 1) : up l p = tri (p - l) := by
  by_cases c : l ≤ p
  · exact up_high c
  · rw [up_low (by omega), show p - l = -1 by omega]
    rfl
theorem spot_right {l : List I2} {p : Int} (h : ∀ s ∈ l, s.1 ≤ s.2 ∧ s.2 ≤ p) : 2 * spot l p = 2 * p * tot (fun s => s.2 - s.1 + 1) l - tot (fun s => (s.1 + s.2) * (s.2 - s.1 + 1)) l := by
  induction l with
  | nil => rw [tot_nil, tot_nil]; show 2 * (0 : Int) = 2 * p * 0 - 0; omega
  | cons s l ih =>
    have h1 := ih fun x m => h x (List.mem_cons_of_mem _ m)
    obtain ⟨h2, h3⟩ := h s List.mem_cons_self
    rw [tot_cons, tot_cons]
    show 2 * (iv s.1 s.2 p + spot l p) = _
    unfold iv
    rw [up_high1 (show s.1 ≤ p + 1 by omega), up_high1 (show s.2 + 1 ≤ p + 1 by omega)]
    have t1 := tri_two (p - s.1)
    have t2 := tri_two (p - (s.2 + 1))
    have e : (p - s.1) * (p - s.1 + 1) - (p - (s.2 + 1)) * (p - (s.2 + 1) + 1) = 2 * p * (s.2 - s.1 + 1) - (s.1 + s.2) * (s.2 - s.1 + 1) := by grind
    have e2 : 2 * p * (s.2 - s.1 + 1 + tot (fun s => s.2 - s.1 + 1) l) = 2 * p * (s.2 - s.1 + 1) + 2 * p * tot (fun s => s.2 - s.1 + 1) l := Int.mul_add _ _ _
    omega
theorem hpot_least {hs : List I2} (h0 : ∀ h ∈ hs, 0 ≤ h.2) (p : Int) : p * tot (fun h => h.2) hs - tot (fun h => h.1 * h.2) hs ≤ hpot hs p := by
  induction hs with
  | nil => rw [tot_nil, tot_nil]; show p * 0 - 0 ≤ 0; omega
  | cons h t ih =>
    have h1 := ih fun x m => h0 x (List.mem_cons_of_mem _ m)
    have h2 := h0 h List.mem_cons_self
    have h3 : p - h.1 ≤ chip h.1 p := by unfold chip; split <;> omega
    have h4 := Int.mul_le_mul_of_nonneg_left h3 h2
    have e1 : h.2 * (p - h.1) = p * h.2 - h.1 * h.2 := by grind
    have e2 : p * (h.2 + tot (fun h => h.2) t) = p * h.2 + p * tot (fun h => h.2) t := Int.mul_add _ _ _
    rw [tot_cons, tot_cons]
    show _ ≤ h.2 * chip h.1 p + hpot t p
    omega
theorem gave_right {hs : List I2} (h0 : ∀ h ∈ hs, 0 ≤ h.2) {p : Int} (h : ∀ s ∈ stretches hs, s.2 ≤ p) : gaveI hs p = 0 := by
  have h1 := gave_nonneg h0 p
  have h2 := hpot_least h0 p
  have h3 := spot_right (l := stretches hs) (p := p) fun s m => ⟨(stretches_ok h0).1.le s m, h s m⟩
  rw [mass_ok h0, mom_ok h0] at h3
  have e : 2 * p * tot (fun h => h.2) hs = 2 * (p * tot (fun h => h.2) hs) := Int.mul_assoc _ _ _
  unfold gaveI at *
  omega
theorem NF.lo {s : I2} {l : List I2} (h : NF (s :: l)) : ∀ x ∈ s :: l, s.1 ≤ x.1 := fun x m => by
  have h1 := h.le s List.mem_cons_self
  rcases List.mem_cons.mp m with e | m
  · rw [e]; exact Int.le_refl _
  · have := (List.pairwise_cons.mp h.gap).1 x m
    omega
theorem NF.hi {s : I2} {l : List I2} (h : NF (l ++ [s])) : ∀ x ∈ l ++ [s], x.2 ≤ s.2 := fun x m => by
  have h1 := h.le s (by simp)
  rcases List.mem_append.mp m with m | m
  · have := (List.pairwise_append.mp h.gap).2.2 x m s (by simp)
    omega
  · rw [List.mem_singleton.mp m]; exact Int.le_refl _
/-! ### squares -/
def sqs (m : Int) : Int := m * (m + 1) * (2 * m + 1) / 6
def u3 (m : Int) : Int := (m - 1) * m * (m + 1) / 6
theorem six (m : Int) : (m - 1) * m * (m + 1) % 6 = 0 := by
  obtain ⟨k, r, hm, hr⟩ : ∃ k r : Int, m = 6 * k + r ∧ (r = 0 ∨ r = 1 ∨ r = 2 ∨ r = 3 ∨ r = 4 ∨ r = 5) := ⟨m / 6, m % 6, by omega, by omega⟩
  have e : (m - 1) * m * (m + 1) = 6 * (36 * k * k * k + 18 * k * k * r + 3 * k * r * r - k) + (r - 1) * r * (r + 1) := by
    subst hm
    grind
  rw [e, Int.add_comm, Int.add_mul_emod_self_left]
  rcases hr with rfl | rfl | rfl | rfl | rfl | rfl <;> decide
theorem sqs_is (m : Int) : sqs m = tri m + 2 * u3 m := by
  have h1 := six m
  have h2 := tri_two m
  have h3 : 6 * u3 m = (m - 1) * m * (m + 1) := by unfold u3; omega
  have e : m * (m + 1) * (2 * m + 1) = 3 * (m * (m + 1)) + 2 * ((m - 1) * m * (m + 1)) := by grind
  unfold sqs
  rw [e]
  omega
theorem sqs_six (m : Int) : 6 * sqs m = m * (m + 1) * (2 * m + 1) := by
  rw [sqs_is]
  have h2 := tri_two m
  have h1 := six m
  have h3 : 6 * u3 m = (m - 1) * m * (m + 1) := by unfold u3; omega
  have e : m * (m + 1) * (2 * m + 1) = 3 * (m * (m + 1)) + 2 * ((m - 1) * m * (m + 1)) := by grind
  omega
def sqS (s : I2) : Int := sqs s.2 - sqs (s.1 - 1)
theorem lawSq_is (f l : Int) : (l - f + 1) * f * f + f * (l - f + 1) * (l - f + 1 - 1) + (l - f + 1 - 1) * (l - f + 1) * (2 * (l - f + 1) - 1) / 6 = sqS (f, l) := by
  have e1 : (l - f + 1 - 1) * (l - f + 1) * (2 * (l - f + 1) - 1) / 6 = sqs (l - f) := by
    unfold sqs
    have : (l - f + 1 - 1) * (l - f + 1) * (2 * (l - f + 1) - 1) = (l - f) * (l - f + 1) * (2 * (l - f) + 1) := by grind
    rw [this]
  rw [e1]
  unfold sqS
  have a1 := sqs_six (l - f)
  have a2 := sqs_six l
  have a3 := sqs_six (f - 1)
  have : 6 * ((l - f + 1) * f * f + f * (l - f + 1) * (l - f + 1 - 1)) + (l - f) * (l - f + 1) * (2 * (l - f) + 1) = l * (l + 1) * (2 * l + 1) - (f - 1) * (f - 1 + 1) * (2 * (f - 1) + 1) := by grind
  show _ = sqs l - sqs (f - 1)
  omega
def sqH (h : I2) : Int := h.1 * h.1 * h.2
/-- how often all give, twice -/
def twice (hs : List I2) : Int := tot sqS (stretches hs) - tot sqH hs
theorem tot_add (f g : I2 → Int) (l : List I2) : tot (fun x => f x + 2 * g x) l = tot f l + 2 * tot g l := by
  induction l with
  | nil => rfl
  | cons x l ih => rw [tot_cons, tot_cons, tot_cons, ih]; omega
theorem twice_even {hs : List I2} (h0 : ∀ h ∈ hs, 0 ≤ h.2) : ∃ k, twice hs = 2 * k := by
  have e1 : tot sqS (stretches hs) = tot (fun s => tri s.2 - tri (s.1 - 1)) (stretches hs) + 2 * tot (fun s => u3 s.2 - u3 (s.1 - 1)) (stretches hs) := by
    rw [← tot_add]
    refine tot_congr fun x _ => ?_
    unfold sqS
    rw [sqs_is, sqs_is]
    omega
  have e2 : 2 * tot (fun s => tri s.2 - tri (s.1 - 1)) (stretches hs) = tot (fun s => (s.1 + s.2) * (s.2 - s.1 + 1)) (stretches hs) := by
    have : ∀ l : List I2, 2 * tot (fun s => tri s.2 - tri (s.1 - 1)) l = tot (fun s => (s.1 + s.2) * (s.2 - s.1 + 1)) l := by
      intro l
      induction l with
      | nil => rfl
      | cons s l ih =>
        rw [tot_cons, tot_cons, Int.mul_add, ih]
        have t1 := tri_two s.2
        have t2 := tri_two (s.1 - 1)
        have : (s.1 + s.2) * (s.2 - s.1 + 1) = s.2 * (s.2 + 1) - (s.1 - 1) * (s.1 - 1 + 1) := by grind
        omega
    exact this _
  have e3 : tot sqH hs = tot (fun h => h.1 * h.2) hs + 2 * tot (fun h => tri (h.1 - 1) * h.2) hs := by
    rw [← tot_add]
    refine tot_congr fun x _ => ?_
    unfold sqH
    have t := tri_two (x.1 - 1)
    have e : 2 * (tri (x.1 - 1) * x.2) = (2 * tri (x.1 - 1)) * x.2 := by rw [Int.mul_assoc]
    rw [e, t]
    grind
  rw [mom_ok h0] at e2
  unfold twice
  rw [e1, e3]
  exact ⟨tot (fun s => u3 s.2 - u3 (s.1 - 1)) (stretches hs) - tot (fun h => tri (h.1 - 1) * h.2) hs, by omega⟩
def allI (hs : List I2) : Int := twice hs / 2
theorem all_two {hs : List I2} (h0 : ∀ h ∈ hs, 0 ≤ h.2) : 2 * allI hs = twice hs := by
  obtain ⟨k, hk⟩ := twice_even h0
  unfold allI
  omega
end Spr
/-! Plain law, part H: heaps moved, mirrored, cut, put in later. -/
namespace Spr
/-! ### moved -/
def mv (t : Int) (h : I2) : I2 := (h.1 + t, h.2)
def mvS (t : Int) (s : I2) : I2 := (s.1 + t, s.2 + t)
theorem up_mv (l t p : Int) : up (l + t) p = up l (p - t) := by
  unfold up
  have e : p - (l + t) = p - t - l := by omega
  rw [e]
  by_cases h : p ≤ l + t
  · rw [if_pos h, if_pos (by omega)]
  · rw [if_neg h, if_neg (by omega)]
theorem chip_mv (x t p : Int) : chip (x + t) p = chip x (p - t) := by
  rw [chip_up, chip_up, up_mv]
  have e : x + t + 1 = (x + 1) + t := by omega
  rw [e, up_mv]
theorem hpot_mv (t : Int) (hs : List I2) (p : Int) : hpot (hs.map (mv t)) p = hpot hs (p - t) := by
  induction hs with
  | nil => rfl
  | cons x l ih =>
    show x.2 * chip (x.1 + t) p + hpot (l.map (mv t)) p = x.2 * chip x.1 (p - t) + hpot l (p - t)
    rw [ih, chip_mv]
theorem iv_mv (l r t p : Int) : iv (l + t) (r + t) p = iv l r (p - t) := by
  unfold iv
  have e : r + t + 1 = (r + 1) + t := by omega
  rw [e, up_mv, up_mv]
theorem spot_mv (t : Int) (hs : List I2) (p : Int) : spot (hs.map (mvS t)) p = spot hs (p - t) := by
  induction hs with
  | nil => rfl
  | cons x l ih =>
    show iv (x.1 + t) (x.2 + t) p + spot (l.map (mvS t)) p = iv x.1 x.2 (p - t) + spot l (p - t)
    rw [ih, iv_mv]
theorem Reach.mv {F G : Int → Int} (a : Reach F G) (t : Int) : Reach (fun p => F (p - t)) (fun p => G (p - t)) := by
  induction a with
  | refl F => exact .refl _
  | step F G x h r ih =>
    refine .step _ _ (x + t) ?_ ?_
    · have e1 : x + t - 1 - t = x - 1 := by omega
      have e2 : x + t + 1 - t = x + 1 := by omega
      have e3 : x + t - t = x := by omega
      show 2 ≤ F (x + t - 1 - t) + F (x + t + 1 - t) - 2 * F (x + t - t)
      rw [e1, e2, e3]
      exact h
    · have e : fire (fun p => F (p - t)) (x + t) = fun p => fire F x (p - t) := by
        funext p
        unfold fire
        dsimp only
        by_cases c : p = x + t
        · rw [if_pos c, if_pos (by omega)]
        · rw [if_neg c, if_neg (by omega)]
      rw [e]
      exact ih
theorem NF.mv {l : List I2} (h : NF l) (t : Int) : NF (l.map (mvS t)) := by
  refine ⟨fun s m => ?_, ?_⟩
  · obtain ⟨x, mx, rfl⟩ := List.mem_map.mp m
    have := h.le x mx
    show x.1 + t ≤ x.2 + t
    omega
  · rw [List.pairwise_map]
    refine h.gap.imp fun {a b} q => ?_
    show a.2 + t + 1 < b.1 + t
    omega
theorem pos_mv {hs : List I2} (h0 : ∀ h ∈ hs, 0 ≤ h.2) (t : Int) : ∀ h ∈ hs.map (mv t), 0 ≤ h.2 := fun h m => by
  obtain ⟨x, mx, rfl⟩ := List.mem_map.mp m
  exact h0 x mx
theorem stretches_mv {hs : List I2} (h0 : ∀ h ∈ hs, 0 ≤ h.2) (t : Int) : stretches (hs.map (mv t)) = (stretches hs).map (mvS t) := by
  obtain ⟨N, R⟩ := stretches_ok h0
  exact stretches_uniq (pos_mv h0 t) (N.mv t) (((R.mv t).eq_left (hpot_mv t hs)).eq_right fun p => (spot_mv t _ p).symm)
theorem gave_mv {hs : List I2} (h0 : ∀ h ∈ hs, 0 ≤ h.2) (t p : Int) : gaveI (hs.map (mv t)) (p + t) = gaveI hs p := by
  unfold gaveI
  rw [stretches_mv h0, spot_mv, hpot_mv]
  have e : p + t - t = p := by omega
  rw [e]
/-! ### mirrored -/
def mi (h : I2) : I2 := (-h.1, h.2)
def miS (s : I2) : I2 := (-s.2, -s.1)
theorem tri_neg (m : Int) : tri (-m - 1) = tri m := by
  have a := tri_two (-m - 1)
  have b := tri_two m
  have e : (-m - 1) * (-m - 1 + 1) = m * (m + 1) := by grind
  omega
theorem up_mi (r p : Int) : up (-r) p = tri (p + r) - up (r + 1) (-p) := by
  by_cases c : -r ≤ p
  · rw [up_high c, up_low (show -p ≤ r + 1 by omega)]
    have e : p - -r = p + r := by omega
    rw [e]
    omega
  · rw [up_low (by omega), up_high1 (show r + 1 ≤ -p + 1 by omega)]
    have e : -p - (r + 1) = -(p + r) - 1 := by omega
    rw [e, tri_neg]
    omega
theorem chip_mi (x p : Int) : chip (-x) p = chip x (-p) + (p + x) := by
  unfold chip
  split <;> split <;> omega
theorem iv_mi (l r p : Int) : 2 * iv (-r) (-l) p = 2 * iv l r (-p) + (2 * p * (r - l + 1) + (l + r) * (r - l + 1)) := by
  unfold iv
  have e : -l + 1 = -(l - 1) := by omega
  have e2 : l - 1 + 1 = l := by omega
  rw [e, up_mi, up_mi, e2]
  have a := tri_two (p + r)
  have b := tri_two (p + (l - 1))
  have c : (p + r) * (p + r + 1) - (p + (l - 1)) * (p + (l - 1) + 1) = 2 * p * (r - l + 1) + (l + r) * (r - l + 1) := by grind
  omega
theorem hpot_mi (hs : List I2) (p : Int) : hpot (hs.map mi) p = hpot hs (-p) + (p * tot (fun h => h.2) hs + tot (fun h => h.1 * h.2) hs) := by
  induction hs with
  | nil => show (0 : Int) = 0 + (p * 0 + 0); omega
  | cons x l ih =>
    show x.2 * chip (-x.1) p + hpot (l.map mi) p = x.2 * chip x.1 (-p) + hpot l (-p) + _
    rw [ih, chip_mi, tot_cons, tot_cons]
    generalize tot (fun h => h.2) l = A
    generalize tot (fun h => h.1 * h.2) l = B
    generalize chip x.1 (-p) = c
    grind
theorem spot_mi (l : List I2) (p : Int) : 2 * spot (l.reverse.map miS) p = 2 * spot l (-p) + (2 * p * tot (fun s => s.2 - s.1 + 1) l + tot (fun s => (s.1 + s.2) * (s.2 - s.1 + 1)) l) := by
  rw [List.map_reverse, spot_reverse]
  induction l with
  | nil => show (2 : Int) * 0 = 2 * 0 + (2 * p * 0 + 0); omega
  | cons x l ih =>
    have e := iv_mi x.1 x.2 p
    show 2 * (iv (-x.2) (-x.1) p + spot (l.map miS) p) = 2 * (iv x.1 x.2 (-p) + spot l (-p)) + _
    rw [Int.mul_add, ih, e, tot_cons, tot_cons]
    generalize tot (fun s => s.2 - s.1 + 1) l = A
    generalize tot (fun s => (s.1 + s.2) * (s.2 - s.1 + 1)) l = B
    grind
theorem Reach.mi {F G : Int → Int} (a : Reach F G) : Reach (fun p => F (-p)) (fun p => G (-p)) := by
  induction a with
  | refl F => exact .refl _
  | step F G x h r ih =>
    refine .step _ _ (-x) ?_ ?_
    · have e1 : -(-x - 1) = x + 1 := by omega
      have e2 : -(-x + 1) = x - 1 := by omega
      have e3 : - -x = x := by omega
      show 2 ≤ F (-(-x - 1)) + F (-(-x + 1)) - 2 * F (- -x)
      rw [e1, e2, e3]
      unfold lap at h
      omega
    · have e : fire (fun p => F (-p)) (-x) = fun p => fire F x (-p) := by
        funext p
        unfold fire
        dsimp only
        by_cases c : p = -x
        · rw [if_pos c, if_pos (by omega)]
        · rw [if_neg c, if_neg (by omega)]
      rw [e]
      exact ih
theorem NF.mi {l : List I2} (h : NF l) : NF (l.reverse.map miS) := by
  refine ⟨fun s m => ?_, ?_⟩
  · obtain ⟨x, mx, rfl⟩ := List.mem_map.mp m
    have := h.le x (List.mem_reverse.mp mx)
    show -x.2 ≤ -x.1
    omega
  · rw [List.pairwise_map, List.pairwise_reverse]
    refine h.gap.imp fun {a b} q => ?_
    show -b.1 + 1 < -a.2
    omega
theorem pos_mi {hs : List I2} (h0 : ∀ h ∈ hs, 0 ≤ h.2) : ∀ h ∈ hs.map mi, 0 ≤ h.2 := fun h m => by
  obtain ⟨x, mx, rfl⟩ := List.mem_map.mp m
  exact h0 x mx
theorem mi_both {hs : List I2} (h0 : ∀ h ∈ hs, 0 ≤ h.2) (p : Int) : spot ((stretches hs).reverse.map miS) p = spot (stretches hs) (-p) + (p * tot (fun h => h.2) hs + tot (fun h => h.1 * h.2) hs) := by
  have a := spot_mi (stretches hs) p
  rw [mass_ok h0, mom_ok h0, Int.mul_assoc] at a
  omega
theorem stretches_mi {hs : List I2} (h0 : ∀ h ∈ hs, 0 ≤ h.2) : stretches (hs.map mi) = (stretches hs).reverse.map miS := by
  obtain ⟨N, R⟩ := stretches_ok h0
  refine stretches_uniq (pos_mi h0) N.mi (((R.mi.add (fun p => p * tot (fun h => h.2) hs + tot (fun h => h.1 * h.2) hs) fun x => ?_).eq_left (hpot_mi hs)).eq_right fun p => (mi_both h0 p).symm)
  unfold lap
  dsimp only
  rw [Int.sub_mul, Int.add_mul]
  omega
theorem gave_mi {hs : List I2} (h0 : ∀ h ∈ hs, 0 ≤ h.2) (p : Int) : gaveI (hs.map mi) (-p) = gaveI hs p := by
  unfold gaveI
  rw [stretches_mi h0, mi_both h0, hpot_mi, Int.neg_neg]
  omega
/-! ### cut in two for one place -/
def c1 (h : I2) : I2 := (h.1, h.2 / 3)
def c2 (h : I2) : I2 := (h.1, h.2 - h.2 / 3)
theorem hpot_cut (hs : List I2) (p : Int) : hpot (hs.map c1 ++ hs.map c2) p = hpot hs p := by
  rw [hpot_append]
  induction hs with
  | nil => rfl
  | cons x l ih =>
    show x.2 / 3 * chip x.1 p + hpot (l.map c1) p + ((x.2 - x.2 / 3) * chip x.1 p + hpot (l.map c2) p) = x.2 * chip x.1 p + hpot l p
    rw [Int.sub_mul]
    omega
theorem pos_cut {hs : List I2} (h0 : ∀ h ∈ hs, 0 ≤ h.2) : ∀ h ∈ hs.map c1 ++ hs.map c2, 0 ≤ h.2 := fun h m => by
  rcases List.mem_append.mp m with m | m
  · obtain ⟨x, mx, rfl⟩ := List.mem_map.mp m
    have := h0 x mx
    show 0 ≤ x.2 / 3
    omega
  · obtain ⟨x, mx, rfl⟩ := List.mem_map.mp m
    have := h0 x mx
    show 0 ≤ x.2 - x.2 / 3
    omega
theorem stretches_cut {hs : List I2} (h0 : ∀ h ∈ hs, 0 ≤ h.2) : stretches (hs.map c1 ++ hs.map c2) = stretches hs := stretches_congr (pos_cut h0) h0 (hpot_cut hs)
theorem gave_cut {hs : List I2} (h0 : ∀ h ∈ hs, 0 ≤ h.2) (p : Int) : gaveI (hs.map c1 ++ hs.map c2) p = gaveI hs p := by
  unfold gaveI
  rw [stretches_cut h0, hpot_cut]
/-! ### how often all give -/
theorem tot_map (f : I2 → Int) (g : I2 → I2) (l : List I2) : tot f (l.map g) = tot (fun x => f (g x)) l := by
  induction l with
  | nil => rfl
  | cons x l ih => rw [List.map_cons, tot_cons, tot_cons, ih]
theorem sqs_neg (m : Int) : sqs (-m - 1) = -sqs m := by
  have a := sqs_six (-m - 1)
  have b := sqs_six m
  have e : (-m - 1) * (-m - 1 + 1) * (2 * (-m - 1) + 1) = -(m * (m + 1) * (2 * m + 1)) := by grind
  omega
theorem sqS_mi (s : I2) : sqS (miS s) = sqS s := by
  show sqs (-s.1) - sqs (-s.2 - 1) = sqs s.2 - sqs (s.1 - 1)
  have e : -s.1 = -(s.1 - 1) - 1 := by omega
  rw [e, sqs_neg, sqs_neg]
  omega
theorem all_mi {hs : List I2} (h0 : ∀ h ∈ hs, 0 ≤ h.2) : allI (hs.map mi) = allI hs := by
  unfold allI twice
  rw [stretches_mi h0, tot_map, tot_map, tot_rev]
  have e1 : tot (fun x => sqS (miS x)) (stretches hs) = tot sqS (stretches hs) := tot_congr fun x _ => sqS_mi x
  have e2 : tot (fun x => sqH (mi x)) hs = tot sqH hs := tot_congr fun x _ => by
    show -x.1 * -x.1 * x.2 = x.1 * x.1 * x.2
    rw [Int.neg_mul_neg]
  rw [e1, e2]
theorem sqS_mv (s : I2) (t : Int) : sqS (mvS t s) = sqS s + t * ((s.1 + s.2) * (s.2 - s.1 + 1)) + t * t * (s.2 - s.1 + 1) := by
  show sqs (s.2 + t) - sqs (s.1 + t - 1) = sqs s.2 - sqs (s.1 - 1) + _ + _
  have a := sqs_six (s.2 + t)
  have b := sqs_six (s.1 + t - 1)
  have c := sqs_six s.2
  have d := sqs_six (s.1 - 1)
  obtain ⟨f, l⟩ := s
  dsimp only at *
  have e : (l + t) * (l + t + 1) * (2 * (l + t) + 1) - (f + t - 1) * (f + t - 1 + 1) * (2 * (f + t - 1) + 1) = l * (l + 1) * (2 * l + 1) - (f - 1) * (f - 1 + 1) * (2 * (f - 1) + 1) + 6 * (t * ((f + l) * (l - f + 1))) + 6 * (t * t * (l - f + 1)) := by grind
  omega
theorem tot_lin (f g k : I2 → Int) (a b : Int) (l : List I2) : tot (fun x => f x + a * g x + b * k x) l = tot f l + a * tot g l + b * tot k l := by
  induction l with
  | nil => show (0 : Int) = 0 + a * 0 + b * 0; omega
  | cons x l ih => rw [tot_cons, tot_cons, tot_cons, tot_cons, ih, Int.mul_add, Int.mul_add]; omega
theorem all_mv {hs : List I2} (h0 : ∀ h ∈ hs, 0 ≤ h.2) (t : Int) : allI (hs.map (mv t)) = allI hs := by
  unfold allI twice
  rw [stretches_mv h0, tot_map, tot_map]
  have e1 : tot (fun x => sqS (mvS t x)) (stretches hs) = tot (fun s => sqS s + t * ((s.1 + s.2) * (s.2 - s.1 + 1)) + t * t * (s.2 - s.1 + 1)) (stretches hs) := tot_congr fun x _ => sqS_mv x t
  have e2 : tot (fun x => sqH (mv t x)) hs = tot (fun x => sqH x + (2 * t) * (x.1 * x.2) + t * t * x.2) hs := tot_congr fun x _ => by
    show (x.1 + t) * (x.1 + t) * x.2 = x.1 * x.1 * x.2 + 2 * t * (x.1 * x.2) + t * t * x.2
    grind
  rw [e1, e2, tot_lin, tot_lin, mass_ok h0, mom_ok h0]
  have e4 : tot (fun h => h.2) hs = tot Prod.snd hs := rfl
  rw [e4]
  have e3 : t * (2 * tot (fun h => h.1 * h.2) hs) = 2 * t * tot (fun h => h.1 * h.2) hs := by grind
  rw [e3]
  congr 1
  omega
/-! ### put in when others rest -/
def run (f : Int) (n : Nat) : List I2 := (List.range n).map fun (i : Nat) => (f + (i : Int), (1 : Int))
theorem run_succ (f : Int) (n : Nat) : run f (n + 1) = run f n ++ [(f + (n : Int), 1)] := by
  unfold run
  rw [List.range_succ, List.map_append]
  rfl
theorem run_len (f : Int) (n : Nat) : (run f n).length = n := by
  unfold run
  rw [List.length_map, List.length_range]
def ones (S : List I2) : List I2 := S.flatMap fun s => run s.1 (s.2 + 1 - s.1).toNat
theorem ones_cons (s : I2) (S : List I2) : ones (s :: S) = run s.1 (s.2 + 1 - s.1).toNat ++ ones S := rfl
theorem ones_snoc (S : List I2) (s : I2) : ones (S ++ [s]) = ones S ++ run s.1 (s.2 + 1 - s.1).toNat := by
  unfold ones
  rw [List.flatMap_append, List.flatMap_cons, List.flatMap_nil, List.append_nil]
theorem hpot_run (f p : Int) : ∀ n : Nat, hpot (run f n) p = iv f (f + (n : Int) - 1) p
  | 0 => by
    show (0 : Int) = up f p - up (f + ((0 : Nat) : Int) - 1 + 1) p
    have e : f + ((0 : Nat) : Int) - 1 + 1 = f := by omega
    rw [e]
    omega
  | n + 1 => by
    rw [run_succ, hpot_snoc, hpot_run f p n, Int.one_mul]
    show iv f (f + (n : Int) - 1) p + chip (f + (n : Int)) p = iv f (f + ((n + 1 : Nat) : Int) - 1) p
    rw [chip_up]
    unfold iv
    have e1 : f + (n : Int) - 1 + 1 = f + (n : Int) := by omega
    have e2 : f + ((n + 1 : Nat) : Int) - 1 + 1 = f + (n : Int) + 1 := by omega
    rw [e1, e2]
    omega
theorem hpot_ones : ∀ {S : List I2}, (∀ s ∈ S, s.1 ≤ s.2) → ∀ p, hpot (ones S) p = spot S p
  | [], _, _ => rfl
  | s :: S, h, p => by
    rw [ones_cons, hpot_append, hpot_ones (fun x m => h x (List.mem_cons_of_mem _ m)), hpot_run]
    have := h s List.mem_cons_self
    have e : s.1 + ((s.2 + 1 - s.1).toNat : Int) - 1 = s.2 := by omega
    rw [e]
    rfl
theorem ones_mem {S : List I2} {x : I2} (m : x ∈ ones S) : x.2 = 1 ∧ ∃ s ∈ S, s.1 ≤ x.1 ∧ x.1 ≤ s.2 := by
  unfold ones at m
  obtain ⟨s, ms, m⟩ := List.mem_flatMap.mp m
  unfold run at m
  obtain ⟨i, mi, rfl⟩ := List.mem_map.mp m
  rw [List.mem_range] at mi
  refine ⟨rfl, s, ms, ?_, ?_⟩
  · show s.1 ≤ s.1 + (i : Int)
    omega
  · show s.1 + (i : Int) ≤ s.2
    omega
theorem ones_len : ∀ {S : List I2}, (∀ s ∈ S, s.1 ≤ s.2) → ((ones S).length : Int) = tot (fun s => s.2 - s.1 + 1) S
  | [], _ => rfl
  | s :: S, h => by
    rw [ones_cons, List.length_append, run_len, tot_cons, ← ones_len (S := S) (fun x m => h x (List.mem_cons_of_mem _ m))]
    have := h s List.mem_cons_self
    omega
theorem sqs_step (m : Int) : sqs m = sqs (m - 1) + m * m := by
  have a := sqs_six m
  have b := sqs_six (m - 1)
  have e : m * (m + 1) * (2 * m + 1) = (m - 1) * (m - 1 + 1) * (2 * (m - 1) + 1) + 6 * (m * m) := by grind
  omega
theorem sq_run (f : Int) : ∀ n : Nat, tot sqH (run f n) = sqs (f + (n : Int) - 1) - sqs (f - 1)
  | 0 => by
    show (0 : Int) = sqs (f + ((0 : Nat) : Int) - 1) - sqs (f - 1)
    have e : f + ((0 : Nat) : Int) - 1 = f - 1 := by omega
    rw [e]
    omega
  | n + 1 => by
    rw [run_succ, tot_app, tot_cons, tot_nil, sq_run f n]
    have e : f + ((n + 1 : Nat) : Int) - 1 = f + (n : Int) := by omega
    rw [e, sqs_step (f + (n : Int))]
    show _ + ((f + (n : Int)) * (f + (n : Int)) * 1 + 0) = _
    omega
theorem sq_ones : ∀ {S : List I2}, (∀ s ∈ S, s.1 ≤ s.2) → tot sqH (ones S) = tot sqS S
  | [], _ => rfl
  | s :: S, h => by
    rw [ones_cons, tot_app, sq_run, tot_cons, sq_ones (S := S) (fun x m => h x (List.mem_cons_of_mem _ m))]
    have := h s List.mem_cons_self
    have e : s.1 + ((s.2 + 1 - s.1).toNat : Int) - 1 = s.2 := by omega
    rw [e]
    rfl
theorem tot_nonneg {f : I2 → Int} {l : List I2} (h : ∀ x ∈ l, 0 ≤ f x) : 0 ≤ tot f l := by
  induction l with
  | nil => exact Int.le_refl _
  | cons x l ih =>
    rw [tot_cons]
    have := h x List.mem_cons_self
    have := ih fun y m => h y (List.mem_cons_of_mem _ m)
    omega
theorem hpot_cvx {hs : List I2} (h0 : ∀ h ∈ hs, 0 ≤ h.2) (p : Int) : 0 ≤ lap (hpot hs) p := by
  rw [lap_hpot]
  exact tot_nonneg fun x m => h0 x (List.mem_filter.mp m).1
theorem pos_app {a b : List I2} (h : ∀ h ∈ a, 0 ≤ h.2) (g : ∀ h ∈ b, 0 ≤ h.2) : ∀ h ∈ a ++ b, 0 ≤ h.2 := fun x m => by
  rcases List.mem_append.mp m with m | m
  · exact h x m
  · exact g x m
theorem pos_ones (S : List I2) : ∀ h ∈ ones S, 0 ≤ h.2 := fun x m => by
  rw [(ones_mem m).1]
  decide
theorem stretches_later {a b : List I2} (ha : ∀ h ∈ a, 0 ≤ h.2) (hb : ∀ h ∈ b, 0 ≤ h.2) : stretches (ones (stretches a) ++ b) = stretches (a ++ b) := by
  obtain ⟨N, R⟩ := stretches_ok ha
  obtain ⟨N2, R2⟩ := stretches_ok (pos_app (pos_ones (stretches a)) hb)
  refine (stretches_uniq (pos_app ha hb) N2 ?_).symm
  refine Reach.trans (((R.add (hpot b) (hpot_cvx hb)).eq_left fun p => hpot_append a b p).eq_right fun p => ?_) R2
  rw [hpot_append, hpot_ones N.le]
  rfl
theorem all_later {a b : List I2} (ha : ∀ h ∈ a, 0 ≤ h.2) (hb : ∀ h ∈ b, 0 ≤ h.2) : allI (ones (stretches a) ++ b) + allI a = allI (a ++ b) := by
  have e1 := all_two (pos_app (pos_ones (stretches a)) hb)
  have e2 := all_two ha
  have e3 := all_two (pos_app ha hb)
  unfold twice at e1 e2 e3
  rw [stretches_later ha hb, tot_app, sq_ones (stretches_ok ha).1.le] at e1
  rw [tot_app] at e3
  omega
end Spr
/-! Plain law, part I: how far stretches reach. -/
namespace Spr
theorem absorb_all {P : I2 → Prop} (hP : ∀ a b c d, P (a, b) → P (c, d) → P (a + c, b + d)) : ∀ (st : List I2) (n b : Int), (∀ c ∈ st, P c) → P (n, b) → ∀ c ∈ absorb st n b, P c
  | [], n, b, _, h, c, m => by
    rw [absorb] at m
    rw [List.mem_singleton.mp m]
    exact h
  | x :: st, n, b, hs, h, c, m => by
    rw [absorb] at m
    split at m
    · exact absorb_all hP st _ _ (fun y my => hs y (List.mem_cons_of_mem _ my)) (hP _ _ _ _ h (hs x List.mem_cons_self)) c m
    · rcases List.mem_cons.mp m with e | m
      · rw [e]; exact h
      · exact hs c m
theorem fold_all {P : I2 → Prop} (hP : ∀ a b c d, P (a, b) → P (c, d) → P (a + c, b + d)) : ∀ (l st : List I2), (∀ x ∈ l, 0 < x.2 → P (x.2, x.2 * x.1)) → (∀ c ∈ st, P c) → ∀ c ∈ l.foldl put st, P c
  | [], st, _, h, c, m => h c m
  | x :: l, st, hl, h, c, m => by
    rw [List.foldl_cons] at m
    refine fold_all hP l (put st x) (fun y my => hl y (List.mem_cons_of_mem _ my)) (fun d md => ?_) c m
    unfold put at md
    split at md
    · next q => exact absorb_all hP st _ _ h (hl x List.mem_cons_self q) d md
    · exact h d md
theorem clus_all {P : I2 → Prop} (hP : ∀ a b c d, P (a, b) → P (c, d) → P (a + c, b + d)) {hs : List I2} (h : ∀ x ∈ hs, 0 < x.2 → P (x.2, x.2 * x.1)) : ∀ c ∈ clus hs, P c := fun c m =>
  fold_all hP (srt hs) [] (fun x mx => h x ((srt_perm hs).mem_iff.mp mx)) (fun _ z => nomatch z) c (List.mem_reverse.mp m)
theorem tot_le_mem {f : I2 → Int} {l : List I2} (h : ∀ x ∈ l, 0 ≤ f x) {x : I2} (m : x ∈ l) : f x ≤ tot f l := by
  induction l with
  | nil => cases m
  | cons y l ih =>
    rw [tot_cons]
    have h1 := h y List.mem_cons_self
    have h2 := tot_nonneg fun z mz => h z (List.mem_cons_of_mem y mz)
    rcases List.mem_cons.mp m with e | m
    · rw [e]; omega
    · have := ih (fun z mz => h z (List.mem_cons_of_mem _ mz)) m
      omega
theorem good_pos {c : I2} (g : Good c.1 c.2) : 0 < c.1 := by
  obtain ⟨V, e, _⟩ := g.at
  rw [e]
  exact cmass_pos V
theorem clus_mass {hs : List I2} (h0 : ∀ h ∈ hs, 0 ≤ h.2) : ∀ c ∈ clus hs, c.1 ≤ tot (fun h => h.2) hs := by
  obtain ⟨P, _⟩ := clus_ok h0
  have e3 : tot (fun c => c.1) (clus hs) = tot (fun c => c.1) (clusS (srt hs)) := tot_rev _ _
  have e4 : tot (fun c : I2 => c.1) (clusS (srt hs)) = tot (fun h => h.2) (srt hs) := by
    unfold clusS
    rw [fold_tot (g := fun c => c.1) (fun a b c d => rfl) _ _ fun h m => h0 h ((srt_perm hs).mem_iff.mp m), tot_nil]
    exact Int.zero_add _
  intro c m
  have := tot_le_mem (f := fun c : I2 => c.1) (l := clus hs) (fun x mx => by have := good_pos (P.good x (List.mem_reverse.mp mx)); show 0 ≤ x.1; omega) m
  rw [e3, e4, tot_perm _ (srt_perm hs)] at this
  exact this
theorem good_near {c : I2} (g : Good c.1 c.2) {B : Int} (h1 : -(B * c.1) ≤ c.2) (h2 : c.2 ≤ B * c.1) : -(B + c.1 + 1) ≤ firstOf c ∧ lastOf c ≤ B + c.1 + 1 := by
  have p := good_pos g
  obtain ⟨V, e1, e2⟩ := g.at
  generalize firstOf c = l at *
  generalize lastOf c = r at *
  obtain ⟨n, b⟩ := c
  dsimp only at *
  have t1 := tri_two r
  have t2 := tri_two (l - 1)
  obtain ⟨V1, V2⟩ := V
  cases he : emptyOf (n, b) with
  | none =>
    rw [he] at e1 e2
    have e1 : n = r - l + 1 := e1
    have e2 : b = tri r - tri (l - 1) := e2
    have q : (l + r) * n = 2 * b := by
      have : (l + r) * n = r * (r + 1) - (l - 1) * (l - 1 + 1) := by rw [e1]; grind
      omega
    have q1 : (l + r) * n ≤ (2 * B) * n := by rw [q, Int.mul_assoc]; omega
    have q2 : (-(2 * B)) * n ≤ (l + r) * n := by rw [q, Int.neg_mul, Int.mul_assoc]; omega
    have r1 := Int.le_of_mul_le_mul_right q1 p
    have r2 := Int.le_of_mul_le_mul_right q2 p
    omega
  | some e =>
    have v := V2 e he
    rw [he] at e1 e2
    have e1 : n = r - l := e1
    have e2 : b = tri r - tri (l - 1) - e := e2
    have q : (l + r) * n = 2 * b + 2 * e - (l + r) := by
      have : (l + r) * n = r * (r + 1) - (l - 1) * (l - 1 + 1) - (l + r) := by rw [e1]; grind
      omega
    have q1 : (l + r) * n ≤ (2 * B + 1) * n := by rw [q, Int.add_mul, Int.mul_assoc]; omega
    have q2 : (-(2 * B + 1)) * n ≤ (l + r) * n := by rw [q, Int.neg_mul, Int.add_mul, Int.mul_assoc]; omega
    have r1 := Int.le_of_mul_le_mul_right q1 p
    have r2 := Int.le_of_mul_le_mul_right q2 p
    omega
theorem stretches_near {hs : List I2} (h0 : ∀ h ∈ hs, 0 ≤ h.2) {B N : Int} (hB : ∀ h ∈ hs, -B ≤ h.1 ∧ h.1 ≤ B) (hN : tot (fun h => h.2) hs ≤ N) :
    ∀ s ∈ stretches hs, (-(B + N + 1) ≤ s.1 ∧ s.1 ≤ B + N + 1) ∧ (-(B + N + 1) ≤ s.2 ∧ s.2 ≤ B + N + 1) := by
  obtain ⟨P, _⟩ := clus_ok h0
  refine stretches_in h0 (p := fun x => -(B + N + 1) ≤ x ∧ x ≤ B + N + 1) fun c m x h1 h2 => ?_
  have nr := clus_all (P := fun c => -(B * c.1) ≤ c.2 ∧ c.2 ≤ B * c.1) (fun a b c d q r => by
    dsimp only at *
    rw [Int.mul_add]
    omega) (hs := hs) (fun x mx px => by
    obtain ⟨a, b⟩ := hB x mx
    dsimp only
    rw [Int.mul_comm B]
    have q1 := Int.mul_le_mul_of_nonneg_left b (Int.le_of_lt px)
    have q2 := Int.mul_le_mul_of_nonneg_left a (Int.le_of_lt px)
    rw [Int.mul_neg] at q2
    exact ⟨q2, q1⟩) c m
  have g := good_near (P.good c (List.mem_reverse.mp m)) nr.1 nr.2
  have := clus_mass h0 c m
  omega
theorem ones_le {S : List I2} (i : Nat) : (ones (S.take i)).length ≤ (ones S).length := by
  have : ones S = ones (S.take i) ++ ones (S.drop i) := by
    unfold ones
    rw [← List.flatMap_append, List.take_append_drop]
  rw [this, List.length_append]
  omega
theorem tot_most {f : I2 → Int} {c : Int} {l : List I2} (h : ∀ x ∈ l, f x ≤ c) : tot f l ≤ c * (l.length : Int) := by
  induction l with
  | nil => rw [tot_nil]; show (0 : Int) ≤ c * 0; omega
  | cons x l ih =>
    rw [tot_cons, List.length_cons]
    have a := h x List.mem_cons_self
    have b := ih fun y m => h y (List.mem_cons_of_mem _ m)
    have e : c * ((l.length + 1 : Nat) : Int) = c * (l.length : Int) + c := by push_cast; rw [Int.mul_add, Int.mul_one]
    omega
end Spr
/-! Plain law, part J: giving one by one over a table of places. -/
namespace Spr
/-! ### what lists of heaps have in common that have as much at each place -/
theorem hadI_nil (p : Int) : hadI [] p = 0 := rfl
theorem hadI_cons (x : I2) (l : List I2) (p : Int) : hadI (x :: l) p = (if x.1 = p then x.2 else 0) + hadI l p := by
  unfold hadI
  by_cases c : x.1 = p
  · rw [List.filter_cons_of_pos (by simpa using c), tot_cons, if_pos c]
  · rw [List.filter_cons_of_neg (by simpa using c), if_neg c]
    omega
theorem hadI_app (a b : List I2) (p : Int) : hadI (a ++ b) p = hadI a p + hadI b p := by
  unfold hadI
  rw [List.filter_append, tot_app]
theorem hadI_other {l : List I2} {x p : Int} : hadI (l.filter fun h => decide (h.1 ≠ x)) p = if p = x then 0 else hadI l p := by
  induction l with
  | nil => rw [List.filter_nil, hadI_nil]; split <;> rfl
  | cons y l ih =>
    by_cases c : y.1 = x
    · rw [List.filter_cons_of_neg (by simpa using c), ih, hadI_cons]
      split
      · rfl
      · rw [if_neg (by omega)]; omega
    · rw [List.filter_cons_of_pos (by simpa using c), hadI_cons, hadI_cons, ih]
      split
      · next e => rw [if_neg (by omega)]; omega
      · omega
theorem wsum_split (φ : Int → Int) (l : List I2) (x : Int) : tot (fun h => h.2 * φ h.1) l = hadI l x * φ x + tot (fun h => h.2 * φ h.1) (l.filter fun h => decide (h.1 ≠ x)) := by
  induction l with
  | nil => rw [hadI_nil, Int.zero_mul]; rfl
  | cons y l ih =>
    rw [tot_cons, ih, hadI_cons]
    by_cases c : y.1 = x
    · rw [List.filter_cons_of_neg (by simpa using c), if_pos c, Int.add_mul, c]
      omega
    · rw [List.filter_cons_of_pos (by simpa using c), if_neg c, tot_cons]
      have : (0 + hadI l x) * φ x = hadI l x * φ x := by rw [Int.zero_add]
      omega
theorem wsum_zero (φ : Int → Int) : ∀ (n : Nat) (l : List I2), l.length ≤ n → (∀ p, hadI l p = 0) → tot (fun h => h.2 * φ h.1) l = 0
  | 0, l, hn, _ => by
    have : l = [] := List.length_eq_zero_iff.mp (by omega)
    rw [this]; rfl
  | n + 1, [], _, _ => rfl
  | n + 1, x :: l, hn, h => by
    rw [wsum_split φ (x :: l) x.1, h x.1, Int.zero_mul, List.filter_cons_of_neg (by simp)]
    rw [wsum_zero φ n (l.filter fun h => decide (h.1 ≠ x.1)) (Nat.le_trans (List.length_filter_le _ _) (by rw [List.length_cons] at hn; omega)) fun p => ?_]
    · rfl
    · rw [hadI_other]
      split
      · rfl
      · next c =>
        have := h p
        rw [hadI_cons, if_neg (by omega)] at this
        omega
def neg2 (h : I2) : I2 := (h.1, -h.2)
theorem hadI_neg (l : List I2) (p : Int) : hadI (l.map neg2) p = -hadI l p := by
  induction l with
  | nil => rfl
  | cons x l ih =>
    rw [List.map_cons, hadI_cons, hadI_cons, ih]
    show (if x.1 = p then -x.2 else 0) + _ = _
    split <;> omega
theorem wsum_neg (φ : Int → Int) (l : List I2) : tot (fun h => h.2 * φ h.1) (l.map neg2) = -tot (fun h => h.2 * φ h.1) l := by
  induction l with
  | nil => rfl
  | cons x l ih =>
    rw [List.map_cons, tot_cons, tot_cons, ih]
    show -x.2 * φ x.1 + _ = _
    rw [Int.neg_mul]
    omega
theorem wsum {a b : List I2} (h : ∀ p, hadI a p = hadI b p) (φ : Int → Int) : tot (fun h => h.2 * φ h.1) a = tot (fun h => h.2 * φ h.1) b := by
  have := wsum_zero φ (a ++ b.map neg2).length (a ++ b.map neg2) (Nat.le_refl _) fun p => by rw [hadI_app, hadI_neg, h p]; omega
  rw [tot_app, wsum_neg] at this
  omega
theorem hpot_tot (l : List I2) (p : Int) : hpot l p = tot (fun h => h.2 * chip h.1 p) l := by
  induction l with
  | nil => rfl
  | cons x l ih => rw [tot_cons, ← ih]; rfl
theorem hpot_had {a b : List I2} (h : ∀ p, hadI a p = hadI b p) (p : Int) : hpot a p = hpot b p := by
  rw [hpot_tot, hpot_tot]
  exact wsum h fun x => chip x p
theorem sq_tot (l : List I2) : tot sqH l = tot (fun h => h.2 * (h.1 * h.1)) l := tot_congr fun x _ => by unfold sqH; rw [Int.mul_comm]
theorem sq_had {a b : List I2} (h : ∀ p, hadI a p = hadI b p) : tot sqH a = tot sqH b := by
  rw [sq_tot, sq_tot]
  exact wsum h fun x => x * x
theorem mass_had {a b : List I2} (h : ∀ p, hadI a p = hadI b p) : tot (fun h => h.2) a = tot (fun h => h.2) b := by
  have e : ∀ l : List I2, tot (fun h => h.2) l = tot (fun h => h.2 * (fun _ => (1 : Int)) h.1) l := fun l => tot_congr fun x _ => (Int.mul_one _).symm
  rw [e, e]
  exact wsum h fun _ => 1
theorem had_of_pot {a b : List I2} (h : ∀ p, hpot a p = hpot b p) (p : Int) : hadI a p = hadI b p := by
  rw [← lap_hpot, ← lap_hpot, show hpot a = hpot b from funext h]
/-! ### a place gives -/
def three (x : Int) : List I2 := [(x, -2), (x - 1, 1), (x + 1, 1)]
theorem hpot_three (x : Int) (l : List I2) (p : Int) : hpot (three x ++ l) p = fire (hpot l) x p := by
  have := chip_fire x p
  show -2 * chip x p + (1 * chip (x - 1) p + (1 * chip (x + 1) p + hpot l p)) = if p = x then hpot l p + 1 else hpot l p
  split at this <;> split <;> omega
theorem sq_three (x : Int) (l : List I2) : tot sqH (three x ++ l) = tot sqH l + 2 := by
  show x * x * -2 + ((x - 1) * (x - 1) * 1 + ((x + 1) * (x + 1) * 1 + tot sqH l)) = _
  have e1 : (x - 1) * (x - 1) = x * x - 2 * x + 1 := by grind
  have e2 : (x + 1) * (x + 1) = x * x + 2 * x + 1 := by grind
  omega
theorem reach_energy {F G : Int → Int} (R : Reach F G) : ∀ a : List I2, (∀ p, F p = hpot a p) → ∃ b : List I2, (∀ p, G p = hpot b p) ∧ tot sqH a ≤ tot sqH b := by
  induction R with
  | refl F => exact fun a h => ⟨a, h, Int.le_refl _⟩
  | step F G x h r ih =>
    intro a ha
    obtain ⟨b, h1, h2⟩ := ih (three x ++ a) fun p => by
      rw [hpot_three]
      unfold fire
      rw [ha p]
    rw [sq_three] at h2
    exact ⟨b, h1, by omega⟩
theorem sq_end {a : List I2} {S : List I2} (N : NF S) (h : ∀ p, hpot a p = spot S p) : tot sqH a = tot sqS S := by
  rw [← sq_ones N.le]
  exact sq_had (had_of_pot fun p => by rw [h p, hpot_ones N.le])
theorem twice_nonneg {hs : List I2} (h0 : ∀ h ∈ hs, 0 ≤ h.2) : 0 ≤ twice hs := by
  obtain ⟨N, R⟩ := stretches_ok h0
  obtain ⟨b, h1, h2⟩ := reach_energy R hs fun p => rfl
  have := sq_end N fun p => (h1 p).symm
  unfold twice
  omega
/-! ### the table -/
def getI (l : List I2) (p : Int) : Option Int := (l.find? fun h => decide (h.1 = p)).map (·.2)
def putI (l : List I2) (p c : Int) : List I2 := if l.any fun h => decide (h.1 = p) then l.map fun h => if h.1 = p then (h.1, c) else h else l ++ [(p, c)]
def keysI (l : List I2) : List Int := l.map (·.1)
theorem getI_had {l : List I2} (nd : (keysI l).Nodup) (p : Int) : (getI l p).getD 0 = hadI l p := by
  induction l with
  | nil => rfl
  | cons x l ih =>
    obtain ⟨n1, n2⟩ := List.nodup_cons.mp nd
    rw [hadI_cons]
    unfold getI
    by_cases c : x.1 = p
    · rw [List.find?_cons_of_pos (by simpa using c), if_pos c]
      have z : hadI l p = 0 := by
        unfold hadI
        rw [List.filter_eq_nil_iff.mpr fun h m => ?_]
        · rfl
        · intro e
          have e := of_decide_eq_true e
          exact n1 (List.mem_map.mpr ⟨h, m, by show h.1 = x.1; omega⟩)
      rw [z]
      show x.2 = x.2 + 0
      omega
    · rw [List.find?_cons_of_neg (by simpa using c), if_neg c, Int.zero_add]
      exact ih n2
theorem keys_put {l : List I2} {p c : Int} : keysI (putI l p c) = if p ∈ keysI l then keysI l else keysI l ++ [p] := by
  unfold putI
  by_cases h : p ∈ keysI l
  · rw [if_pos h, if_pos]
    · unfold keysI
      rw [List.map_map]
      refine List.map_congr_left fun x _ => ?_
      show (if x.1 = p then (x.1, c) else x).1 = x.1
      split <;> rfl
    · obtain ⟨x, mx, e⟩ := List.mem_map.mp h
      exact List.any_eq_true.mpr ⟨x, mx, decide_eq_true e⟩
  · rw [if_neg h, if_neg]
    · unfold keysI
      rw [List.map_append]
      rfl
    · intro q
      obtain ⟨x, mx, e⟩ := List.any_eq_true.mp q
      exact h (List.mem_map.mpr ⟨x, mx, of_decide_eq_true e⟩)
theorem nd_put {l : List I2} {p c : Int} (nd : (keysI l).Nodup) : (keysI (putI l p c)).Nodup := by
  rw [keys_put]
  split
  · exact nd
  · next h => exact List.nodup_append.mpr ⟨nd, List.nodup_cons.mpr ⟨by simp, List.nodup_nil⟩, fun a ma b mb e => by
      rw [List.mem_singleton.mp mb] at e
      exact h (e ▸ ma)⟩
theorem getI_put (l : List I2) (p c q : Int) : getI (putI l p c) q = if q = p then some c else getI l q := by
  unfold putI
  split
  · next h =>
    induction l with
    | nil => simp at h
    | cons x l ih =>
      unfold getI at ih ⊢
      rw [List.map_cons]
      by_cases cx : x.1 = p
      · rw [if_pos cx]
        by_cases e : q = p
        · rw [List.find?_cons_of_pos (by show decide (x.1 = q) = true; simp [cx, e]), if_pos e]; rfl
        · rw [List.find?_cons_of_neg (by show ¬ decide (x.1 = q) = true; simp [cx]; omega), if_neg e, List.find?_cons_of_neg (by show ¬ decide (x.1 = q) = true; simp [cx]; omega)]
          by_cases h2 : (l.any fun h => decide (h.1 = p)) = true
          · rw [ih h2, if_neg e]
          · have : (l.map fun h => if h.1 = p then (h.1, c) else h) = l := by
              rw [List.map_congr_left (g := id) fun y my => ?_, List.map_id]
              rw [if_neg]
              · rfl
              · intro ye
                exact h2 (List.any_eq_true.mpr ⟨y, my, decide_eq_true ye⟩)
            rw [this]
      · rw [if_neg cx]
        have h2 : (l.any fun h => decide (h.1 = p)) = true := by
          rw [List.any_cons, decide_eq_false cx, Bool.false_or] at h
          exact h
        by_cases e2 : x.1 = q
        · rw [List.find?_cons_of_pos (by simpa using e2), List.find?_cons_of_pos (by simpa using e2), if_neg (by omega)]
        · rw [List.find?_cons_of_neg (by simpa using e2), List.find?_cons_of_neg (by simpa using e2), ih h2]
  · next h =>
    unfold getI
    rw [List.find?_append]
    by_cases e : q = p
    · rw [if_pos e]
      have : (l.find? fun h => decide (h.1 = q)) = none := List.find?_eq_none.mpr fun x mx ex => h (List.any_eq_true.mpr ⟨x, mx, by rw [← e]; exact ex⟩)
      rw [this, e]
      simp
    · rw [if_neg e]
      cases l.find? fun h => decide (h.1 = q) with
      | some y => rfl
      | none =>
        show Option.map _ (none.or (List.find? _ [(p, c)])) = none
        have : ¬ p = q := fun z => e z.symm
        simp [this]
theorem had_put {l : List I2} (nd : (keysI l).Nodup) (p c q : Int) : hadI (putI l p c) q = if q = p then c else hadI l q := by
  rw [← getI_had (nd_put nd), getI_put]
  split
  · rfl
  · exact getI_had nd q
theorem len_put (l : List I2) (p c : Int) : (putI l p c).length ≤ l.length + 1 := by
  have := congrArg List.length (keys_put (l := l) (p := p) (c := c))
  unfold keysI at this
  rw [List.length_map] at this
  split at this
  · rw [List.length_map] at this; omega
  · rw [List.length_append, List.length_map, List.length_singleton] at this; omega
theorem key_get {l : List I2} {p : Int} (h : p ∈ keysI l) : ∃ c, getI l p = some c := by
  obtain ⟨x, mx, e⟩ := List.mem_map.mp h
  unfold getI
  cases q : l.find? fun h => decide (h.1 = p) with
  | some y => exact ⟨y.2, rfl⟩
  | none => exact absurd (decide_eq_true e) (List.find?_eq_none.mp q x mx)
theorem pos_had {l : List I2} (nd : (keysI l).Nodup) (h : ∀ p, 0 ≤ hadI l p) : ∀ x ∈ l, 0 ≤ x.2 := fun x mx => by
  have := h x.1
  rw [← getI_had nd] at this
  have e : getI l x.1 = some x.2 := by
    clear this h
    induction l with
    | nil => cases mx
    | cons y l ih =>
      obtain ⟨n1, n2⟩ := List.nodup_cons.mp nd
      unfold getI
      rcases List.mem_cons.mp mx with e | m
      · rw [e, List.find?_cons_of_pos (by simp)]; rfl
      · rw [List.find?_cons_of_neg (by
          intro z
          have z := of_decide_eq_true z
          exact n1 (List.mem_map.mpr ⟨x, m, by show x.1 = y.1; omega⟩))]
        exact ih n2 m
  rw [e] at this
  exact this
/-- a place of the table gives: as the law's program does it -/
def giveT (l : List I2) (x : Int) : List I2 :=
  let l1 := putI l x (hadI l x - 2)
  let l2 := putI l1 (x - 1) (hadI l1 (x - 1) + 1)
  putI l2 (x + 1) (hadI l2 (x + 1) + 1)
theorem nd_give {l : List I2} (nd : (keysI l).Nodup) (x : Int) : (keysI (giveT l x)).Nodup := nd_put (nd_put (nd_put nd))
theorem had_give {l : List I2} (nd : (keysI l).Nodup) (x p : Int) : hadI (giveT l x) p = hadI (three x ++ l) p := by
  have n1 : (keysI (putI l x (hadI l x - 2))).Nodup := nd_put nd
  unfold giveT
  dsimp only
  rw [had_put (nd_put n1), had_put n1, had_put n1, had_put nd, had_put nd, had_put nd]
  show _ = hadI ((x, -2) :: (x - 1, 1) :: (x + 1, 1) :: l) p
  rw [hadI_cons, hadI_cons, hadI_cons]
  dsimp only
  split
  · next e =>
    subst e
    repeat' first | rw [if_pos (by omega)] | rw [if_neg (by omega)]
    omega
  · split
    · next e =>
      subst e
      repeat' first | rw [if_pos (by omega)] | rw [if_neg (by omega)]
      omega
    · split
      · next e =>
        subst e
        repeat' first | rw [if_pos (by omega)] | rw [if_neg (by omega)]
        omega
      · repeat' first | rw [if_pos (by omega)] | rw [if_neg (by omega)]
        omega
theorem len_give (l : List I2) (x : Int) : (giveT l x).length ≤ l.length + 3 := by
  have a := len_put l x (hadI l x - 2)
  have b := len_put (putI l x (hadI l x - 2)) (x - 1) (hadI (putI l x (hadI l x - 2)) (x - 1) + 1)
  have c := len_put (putI (putI l x (hadI l x - 2)) (x - 1) (hadI (putI l x (hadI l x - 2)) (x - 1) + 1)) (x + 1) (hadI (putI (putI l x (hadI l x - 2)) (x - 1) (hadI (putI l x (hadI l x - 2)) (x - 1) + 1)) (x + 1) + 1)
  unfold giveT
  dsimp only
  omega
theorem keys_give {l : List I2} {x q : Int} (h : q ∈ keysI (giveT l x)) : q ∈ keysI l ∨ q = x ∨ q = x - 1 ∨ q = x + 1 := by
  have st : ∀ {l : List I2} {p c : Int}, q ∈ keysI (putI l p c) → q ∈ keysI l ∨ q = p := fun {l p c} h => by
    rw [keys_put] at h
    split at h
    · exact .inl h
    · rcases List.mem_append.mp h with h | h
      · exact .inl h
      · exact .inr (List.mem_singleton.mp h)
  unfold giveT at h
  dsimp only at h
  rcases st h with h | h
  · rcases st h with h | h
    · rcases st h with h | h
      · exact .inl h
      · exact .inr (.inl h)
    · exact .inr (.inr (.inl h))
  · exact .inr (.inr (.inr h))
/-! ### the law's loop -/
structure GI (hs l tl : List I2) (ws : List Int) : Prop where
  nd : (keysI l).Nodup
  ndt : (keysI tl).Nodup
  pos : ∀ p, 0 ≤ hadI l p
  reach : Reach (hpot hs) (hpot l)
  times : ∀ p, hadI tl p = hpot l p - hpot hs p
  all : 2 * tot (fun h => h.2) tl = tot sqH l - tot sqH hs
  wait : ∀ p, 2 ≤ hadI l p → p ∈ ws
  keys : ∀ p ∈ keysI l, p ∈ keysI hs ∨ ∃ q, 1 ≤ gaveI hs q ∧ q - 1 ≤ p ∧ p ≤ q + 1
  tkeys : ∀ p ∈ keysI tl, 1 ≤ gaveI hs p
theorem GI.same {hs l tl : List I2} {ws : List Int} (h0 : ∀ h ∈ hs, 0 ≤ h.2) (g : GI hs l tl ws) : stretches l = stretches hs := by
  obtain ⟨N, R⟩ := stretches_ok (pos_had g.nd g.pos)
  exact (stretches_uniq h0 N (g.reach.trans R)).symm
theorem GI.start {hs l : List I2} {ws : List Int} (h0 : ∀ h ∈ hs, 0 ≤ h.2) (nd : (keysI l).Nodup) (hd : ∀ p, hadI l p = hadI hs p) (hk : ∀ p ∈ keysI l, p ∈ keysI hs) (hw : ∀ p ∈ keysI hs, p ∈ ws) : GI hs l [] ws := by
  have hp := hpot_had hd
  refine ⟨nd, List.nodup_nil, fun p => ?_, .of_eq fun p => (hp p).symm, fun p => ?_, ?_, fun p h => ?_, fun p m => .inl (hk p m), fun p m => nomatch m⟩
  · rw [hd, ← lap_hpot]
    exact hpot_cvx h0 p
  · rw [hp, hadI_nil]; omega
  · rw [sq_had hd, tot_nil]; omega
  · refine hw p ?_
    rw [hd] at h
    unfold hadI at h
    cases e : hs.filter fun h => decide (h.1 = p) with
    | nil => rw [e] at h; exact absurd h (by decide)
    | cons x r =>
      have m : x ∈ hs.filter fun h => decide (h.1 = p) := by rw [e]; exact List.mem_cons_self
      obtain ⟨m1, m2⟩ := List.mem_filter.mp m
      exact List.mem_map.mpr ⟨x, m1, of_decide_eq_true m2⟩
theorem GI.rest {hs l tl : List I2} {ws ws' : List Int} {x : Int} (g : GI hs l tl ws) (hx : hadI l x ≤ 1) (hw : ∀ p ∈ ws, p ≠ x → p ∈ ws') : GI hs l tl ws' :=
  ⟨g.nd, g.ndt, g.pos, g.reach, g.times, g.all, fun p h => hw p (g.wait p h) fun e => by rw [e] at h; omega, g.keys, g.tkeys⟩
theorem GI.give {hs l tl : List I2} {ws ws' : List Int} {x : Int} (h0 : ∀ h ∈ hs, 0 ≤ h.2) (g : GI hs l tl ws) (hx : 2 ≤ hadI l x) (hw : ∀ p ∈ ws, p ≠ x → p ∈ ws')
    (hn : ∀ p, p = x - 1 ∨ p = x ∨ p = x + 1 → 2 ≤ hadI (giveT l x) p → p ∈ ws') : GI hs (giveT l x) (putI tl x (hadI tl x + 1)) ws' := by
  have hd := had_give g.nd x
  have hp : ∀ p, hpot (giveT l x) p = fire (hpot l) x p := fun p => by rw [hpot_had hd, hpot_three]
  have R : Reach (hpot hs) (hpot (giveT l x)) := by
    refine g.reach.trans (.step _ _ x ?_ (.of_eq fun p => (hp p).symm))
    rw [lap_hpot]
    exact hx
  have h3 : ∀ p, hadI (giveT l x) p = (if x = p then -2 else 0) + ((if x - 1 = p then 1 else 0) + ((if x + 1 = p then 1 else 0) + hadI l p)) := fun p => by
    rw [hd p]
    show hadI ((x, -2) :: (x - 1, 1) :: (x + 1, 1) :: l) p = _
    rw [hadI_cons, hadI_cons, hadI_cons]
  have ps : ∀ p, 0 ≤ hadI (giveT l x) p := fun p => by
    have := g.pos p
    rw [h3 p]
    by_cases e : x = p
    · subst e; split <;> split <;> split <;> omega
    · split <;> split <;> split <;> omega
  have gv : 1 ≤ gaveI hs x := by
    obtain ⟨N, R2⟩ := stretches_ok (pos_had (nd_give g.nd x) ps)
    have e := stretches_uniq h0 N (R.trans R2)
    have a := R2.le x
    have b := g.reach.le x
    rw [hp x] at a
    unfold fire at a
    rw [if_pos rfl, ← e] at a
    unfold gaveI
    omega
  refine ⟨nd_give g.nd x, nd_put g.ndt, ps, R, fun p => ?_, ?_, fun p h => ?_, fun p m => ?_, fun p m => ?_⟩
  · rw [had_put g.ndt, hp p]
    unfold fire
    have := g.times p
    split
    · next e => subst e; omega
    · omega
  · have e : tot (fun h => h.2) (putI tl x (hadI tl x + 1)) = tot (fun h => h.2) tl + 1 := by
      rw [mass_had (b := (x, 1) :: tl) fun p => ?_, tot_cons]
      · omega
      · rw [had_put g.ndt, hadI_cons]
        dsimp only
        split
        · next e => subst e; rw [if_pos rfl]; omega
        · rw [if_neg (by omega)]; omega
    rw [e, sq_had hd, sq_three]
    have := g.all
    omega
  · by_cases c : p = x - 1 ∨ p = x ∨ p = x + 1
    · exact hn p c h
    · refine hw p (g.wait p ?_) (fun e => c (.inr (.inl e)))
      rw [h3 p, if_neg (by omega), if_neg (by omega), if_neg (by omega)] at h
      omega
  · rcases keys_give m with m | m
    · exact g.keys p m
    · exact .inr ⟨x, gv, by omega, by omega⟩
  · rw [keys_put] at m
    split at m
    · exact g.tkeys p m
    · rcases List.mem_append.mp m with m | m
      · exact g.tkeys p m
      · rw [List.mem_singleton.mp m]; exact gv
theorem GI.twice {hs l tl : List I2} {ws : List Int} (h0 : ∀ h ∈ hs, 0 ≤ h.2) (g : GI hs l tl ws) : 0 ≤ twice hs - 2 * tot (fun h => h.2) tl := by
  have := twice_nonneg (pos_had g.nd g.pos)
  unfold Spr.twice at *
  rw [g.same h0] at this
  have := g.all
  omega
theorem GI.end_ {hs l tl : List I2} (h0 : ∀ h ∈ hs, 0 ≤ h.2) (g : GI hs l tl []) :
    (∀ p, hadI l p = if hasB (stretches hs) p = true then 1 else 0) ∧ (∀ p, hadI tl p = gaveI hs p) ∧ tot (fun h => h.2) tl = allI hs := by
  obtain ⟨N, R⟩ := stretches_ok h0
  have st : ∀ p, lap (hpot l) p ≤ 1 := fun p => by
    rw [lap_hpot]
    apply Classical.byContradiction
    intro c
    exact nomatch g.wait p (by omega)
  have e := uniq g.reach R st (spot_stable N)
  have e1 : ∀ p, hpot l p = spot (stretches hs) p := fun p => by rw [e]
  refine ⟨fun p => ?_, fun p => ?_, ?_⟩
  · rw [← lap_hpot, e, lap_spot N]
  · rw [g.times p, e1 p]; rfl
  · have a := g.all
    rw [sq_end N e1] at a
    have b := all_two h0
    unfold Spr.twice at b
    omega
end Spr
/-! Plain law, part K: few heaps, near one another. -/
namespace Spr
theorem nd_window : ∀ (n : Nat) (lo : Int) {l : List Int}, l.Nodup → (∀ p ∈ l, lo ≤ p ∧ p < lo + (n : Int)) → l.length ≤ n
  | 0, lo, l, _, h => by
    cases l with
    | nil => exact Nat.le_refl _
    | cons x l => have := h x List.mem_cons_self; omega
  | n + 1, lo, l, nd, h => by
    by_cases m : lo + (n : Int) ∈ l
    · have h1 := nd_window n lo (nd.erase (lo + (n : Int))) fun p mp => by
        rw [nd.mem_erase_iff] at mp
        have := h p mp.2
        have := mp.1
        omega
      rw [List.length_erase_of_mem m] at h1
      omega
    · exact Nat.le_succ_of_le (nd_window n lo nd fun p mp => by
        have := h p mp
        have : p ≠ lo + (n : Int) := fun e => m (e ▸ mp)
        omega)
/-- heaps as law 2 makes them -/
structure K2 (hs : List I2) : Prop where
  l0 : 1 ≤ hs.length
  len : hs.length ≤ 6
  pos : ∀ h ∈ hs, 0 ≤ h.2
  near : ∀ h ∈ hs, -7 ≤ h.1 ∧ h.1 ≤ 7
  mass : tot (fun h => h.2) hs ≤ 19
theorem K2.str {hs : List I2} (k : K2 hs) : ∀ s ∈ stretches hs, (-27 ≤ s.1 ∧ s.1 ≤ 27) ∧ (-27 ≤ s.2 ∧ s.2 ≤ 27) := stretches_near k.pos (B := 7) (N := 19) k.near k.mass
theorem K2.gave {hs : List I2} (k : K2 hs) {q : Int} (h : 1 ≤ gaveI hs q) : -27 < q ∧ q < 27 := by
  constructor <;> apply Classical.byContradiction <;> intro c
  · have := gave_left k.pos (p := q) fun s m => by have := k.str s m; omega
    omega
  · have := gave_right k.pos (p := q) fun s m => by have := k.str s m; omega
    omega
theorem K2.keys {hs l tl : List I2} {ws : List Int} (k : K2 hs) (g : GI hs l tl ws) : ∀ p ∈ keysI l, -28 ≤ p ∧ p ≤ 28 := fun p m => by
  rcases g.keys p m with m | ⟨q, h1, h2, h3⟩
  · obtain ⟨x, mx, e⟩ := List.mem_map.mp m
    have := k.near x mx
    omega
  · have := k.gave h1
    omega
theorem K2.len1 {hs l tl : List I2} {ws : List Int} (k : K2 hs) (g : GI hs l tl ws) : l.length ≤ 57 := by
  have := nd_window 57 (-28) g.nd fun p m => by have := k.keys g p m; omega
  unfold keysI at this
  rw [List.length_map] at this
  exact this
theorem K2.len2 {hs l tl : List I2} {ws : List Int} (k : K2 hs) (g : GI hs l tl ws) : tl.length ≤ 57 := by
  have := nd_window 57 (-28) g.ndt fun p m => by have := k.gave (g.tkeys p m); omega
  unfold keysI at this
  rw [List.length_map] at this
  exact this
theorem K2.twice {hs : List I2} (k : K2 hs) : twice hs ≤ 14896 := by
  have N := (stretches_ok k.pos).1
  have a := sq_ones N.le
  have b := ones_len N.le
  rw [mass_ok k.pos] at b
  have c := tot_most (f := sqH) (c := 784) (l := ones (stretches hs)) fun x m => by
    obtain ⟨e, s, ms, h1, h2⟩ := ones_mem m
    have := k.str s ms
    unfold sqH
    rw [e, Int.mul_one]
    have h3 : -28 ≤ x.1 ∧ x.1 ≤ 28 := by omega
    have p1 : 0 ≤ (28 - x.1) * (28 + x.1) := Int.mul_nonneg (by omega) (by omega)
    have p2 : (28 - x.1) * (28 + x.1) = 784 - x.1 * x.1 := by grind
    omega
  have d := tot_nonneg (f := sqH) (l := hs) fun x m => by
    unfold sqH
    have : 0 ≤ x.1 * x.1 := by
      rcases Int.le_total 0 x.1 with h | h
      · exact Int.mul_nonneg h h
      · exact Int.mul_nonneg_of_nonpos_of_nonpos h h
    exact Int.mul_nonneg this (k.pos x m)
  have m := k.mass
  unfold Spr.twice
  omega
theorem len_put2 (l : List I2) (p c : Int) : 1 ≤ (putI l p c).length := by
  have := congrArg List.length (keys_put (l := l) (p := p) (c := c))
  unfold keysI at this
  rw [List.length_map] at this
  split at this
  · next h =>
    obtain ⟨x, mx, _⟩ := List.mem_map.mp h
    have := List.length_pos_of_mem mx
    rw [List.length_map] at *
    omega
  · rw [List.length_append, List.length_singleton] at this; omega
theorem len_give2 (l : List I2) (x : Int) : 1 ≤ (giveT l x).length := len_put2 _ _ _
theorem keys_put_sub {l : List I2} {p c q : Int} (h : q ∈ keysI l) : q ∈ keysI (putI l p c) := by
  rw [keys_put]
  split
  · exact h
  · exact List.mem_append_left _ h
theorem keys_put_self {l : List I2} {p c : Int} : p ∈ keysI (putI l p c) := by
  rw [keys_put]
  split
  · next h => exact h
  · exact List.mem_append_right _ (List.mem_singleton.mpr rfl)
theorem get_key {l : List I2} (nd : (keysI l).Nodup) {x : Int} (h : x ∈ keysI l) : getI l x = some (hadI l x) := by
  obtain ⟨c, e⟩ := key_get h
  have := getI_had nd x
  rw [e] at this ⊢
  exact congrArg some this
theorem tot_one {tl : List I2} (nd : (keysI tl).Nodup) (x : Int) : tot (fun h => h.2) (putI tl x (hadI tl x + 1)) = tot (fun h => h.2) tl + 1 := by
  rw [mass_had (b := (x, 1) :: tl) fun p => ?_, tot_cons]
  · omega
  · rw [had_put nd, hadI_cons]
    dsimp only
    split
    · next e => subst e; rw [if_pos rfl]; omega
    · rw [if_neg (by omega)]; omega
/-- the table while a place gives -/
def giveK (l : List I2) (x : Int) (i : Nat) : List I2 :=
  match i with
  | 0 => putI l x (hadI l x - 2)
  | 1 => putI (putI l x (hadI l x - 2)) (x - 1) (hadI (putI l x (hadI l x - 2)) (x - 1) + 1)
  | _ => giveT l x
theorem giveK_nd {l : List I2} (nd : (keysI l).Nodup) (x : Int) : ∀ i, (keysI (giveK l x i)).Nodup
  | 0 => nd_put nd
  | 1 => nd_put (nd_put nd)
  | _ + 2 => nd_give nd x
theorem giveK_len (l : List I2) (x : Int) : ∀ i, (giveK l x i).length ≤ l.length + 3
  | 0 => by have := len_put l x (hadI l x - 2); show (putI _ _ _).length ≤ _; omega
  | 1 => by
    have := len_put l x (hadI l x - 2)
    have := len_put (putI l x (hadI l x - 2)) (x - 1) (hadI (putI l x (hadI l x - 2)) (x - 1) + 1)
    show (putI _ _ _).length ≤ _
    omega
  | _ + 2 => len_give l x
theorem giveK_keys {l : List I2} {x : Int} : ∀ z, z = x - 1 ∨ z = x ∨ z = x + 1 → z ∈ keysI (giveT l x) := fun z h => by
  unfold giveT
  dsimp only
  rcases h with rfl | rfl | rfl
  · exact keys_put_sub keys_put_self
  · exact keys_put_sub (keys_put_sub keys_put_self)
  · exact keys_put_self
/-- how much is yet to be done -/
def todo (hs tl : List I2) (ws : List Int) : Nat := (2 * (twice hs - 2 * tot (fun h => h.2) tl)).toNat + ws.length
theorem get_some {l : List I2} (nd : (keysI l).Nodup) {x : Int} (h : hadI l x ≠ 0) : getI l x = some (hadI l x) := by
  have e := getI_had nd x
  cases q : getI l x with
  | none => rw [q] at e; exact absurd e.symm h
  | some c => rw [q] at e; exact congrArg some e
theorem first_at {k : Int} : ∀ {ns : List Int}, k ∈ ns → ∃ j, ns[j]? = some k ∧ (∀ m : Nat, m < j → ns[m]? ≠ some k) ∧ (ns.eraseIdx j).length + 1 = ns.length ∧ ∀ p ∈ ns, p ≠ k → p ∈ ns.eraseIdx j
  | x :: ns, m => by
    by_cases e : x = k
    · exact ⟨0, by rw [e]; rfl, fun m h => absurd h (Nat.not_lt_zero m), rfl, fun p mp np => by
        rcases List.mem_cons.mp mp with z | mp
        · exact absurd (z.trans e) np
        · exact mp⟩
    · obtain ⟨j, h1, h2, h3, h4⟩ := first_at (ns := ns) (by
        rcases List.mem_cons.mp m with z | m
        · exact absurd z.symm e
        · exact m)
      refine ⟨j + 1, h1, fun m h => ?_, ?_, fun p mp np => ?_⟩
      · cases m with
        | zero => intro z; exact e (Option.some.inj z)
        | succ m => exact h2 m (by omega)
      · show (x :: ns.eraseIdx j).length + 1 = (x :: ns).length
        rw [List.length_cons, List.length_cons]
        omega
      · show p ∈ x :: ns.eraseIdx j
        rcases List.mem_cons.mp mp with z | mp
        · rw [z]; exact List.mem_cons_self
        · exact List.mem_cons_of_mem _ (h4 p mp np)
end Spr
/-! the text by places -/
namespace Wk
open PySem PySem.Spec PyProof.Rows L2
def topS (i : Nat) : Stmt := PySem.Challenge.pw_spreadrow_k02_whole_step_by_step.main.body.getD i (.Pass ⟨0, 0, 0, 0⟩)
abbrev st_law : Stmt := topS 26
theorem sc_law : FnScope ["_law_script", "_law_heaps", "_law_k", "_law_stretches", "_law_forth", "_law_had", "_law_times", "_law_place", "_law_rest", "_law_first", "_law_last", "_law_many"] ["_law_script"] (defScope st_law) := ⟨rfl, rfl, rfl, by decide +kernel, rfl, by decide +kernel, by decide +kernel⟩
abbrev st_spread : Stmt := topS 16
theorem sc_spread : FnScope ["heaps"] ["heaps"] (defScope st_spread) := ⟨rfl, rfl, rfl, by decide +kernel, rfl, by decide +kernel, by decide +kernel⟩
abbrev st__law_given : Stmt := topS 25
theorem sc__law_given : FnScope ["_law_heaps", "_law_forth", "_law_had", "_law_times", "_law_place", "_law_count", "_law_waiting", "_law_near"] ["_law_heaps", "_law_forth"] (defScope st__law_given) := ⟨rfl, rfl, rfl, by decide +kernel, rfl, by decide +kernel, by decide +kernel⟩
abbrev st__law_draw : Stmt := topS 24
theorem sc__law_draw : FnScope ["_law_cell", "_law_k", "_law_many", "_law_primes"] ["_law_cell", "_law_k", "_law_many"] (defScope st__law_draw) := ⟨rfl, rfl, rfl, by decide +kernel, rfl, by decide +kernel, by decide +kernel⟩
abbrev st_all_gave : Stmt := topS 21
theorem sc_all_gave : FnScope ["heaps", "total", "first", "last", "place", "count"] ["heaps"] (defScope st_all_gave) := ⟨rfl, rfl, rfl, by decide +kernel, rfl, by decide +kernel, by decide +kernel⟩
abbrev st__law_cell_at : Stmt := topS 23
theorem sc__law_cell_at : FnScope ["_law_script", "_law_k"] ["_law_script", "_law_k"] (defScope st__law_cell_at) := ⟨rfl, rfl, rfl, by decide +kernel, rfl, by decide +kernel, by decide +kernel⟩
abbrev st_left : Stmt := topS 17
theorem sc_left : FnScope ["heaps", "place", "first", "last"] ["heaps", "place"] (defScope st_left) := ⟨rfl, rfl, rfl, by decide +kernel, rfl, by decide +kernel, by decide +kernel⟩
abbrev st_gave : Stmt := topS 20
theorem sc_gave : FnScope ["heaps", "place", "total", "first", "last", "end", "many", "start", "count"] ["heaps", "place"] (defScope st_gave) := ⟨rfl, rfl, rfl, by decide +kernel, rfl, by decide +kernel, by decide +kernel⟩
abbrev st_check_heaps : Stmt := topS 8
theorem sc_check_heaps : FnScope ["heaps", "heap"] ["heaps"] (defScope st_check_heaps) := ⟨rfl, rfl, rfl, by decide +kernel, rfl, by decide +kernel, by decide +kernel⟩
abbrev st_stretches_of : Stmt := topS 12
theorem sc_stretches_of : FnScope ["heaps", "found", "many", "balance", "first", "last", "empty", "parts", "begin", "end"] ["heaps"] (defScope st_stretches_of) := ⟨rfl, rfl, rfl, by decide +kernel, rfl, by decide +kernel, by decide +kernel⟩
abbrev st_squares_to : Stmt := topS 19
theorem sc_squares_to : FnScope ["place"] ["place"] (defScope st_squares_to) := ⟨rfl, rfl, rfl, by decide +kernel, rfl, by decide +kernel, by decide +kernel⟩
abbrev st_check_place : Stmt := topS 9
theorem sc_check_place : FnScope ["place"] ["place"] (defScope st_check_place) := ⟨rfl, rfl, rfl, by decide +kernel, rfl, by decide +kernel, by decide +kernel⟩
abbrev st_is_heap : Stmt := topS 7
theorem sc_is_heap : FnScope ["thing"] ["thing"] (defScope st_is_heap) := ⟨rfl, rfl, rfl, by decide +kernel, rfl, by decide +kernel, by decide +kernel⟩
abbrev st__wall : Stmt := topS 0
theorem sc__wall : FnScope ["k"] ["k"] (defScope st__wall) := ⟨rfl, rfl, rfl, by decide +kernel, rfl, by decide +kernel, by decide +kernel⟩
abbrev st_clusters_of : Stmt := topS 11
theorem sc_clusters_of : FnScope ["heaps", "found", "place", "count", "many", "balance", "first", "last", "empty"] ["heaps"] (defScope st_clusters_of) := ⟨rfl, rfl, rfl, by decide +kernel, rfl, by decide +kernel, by decide +kernel⟩
abbrev st_is_whole : Stmt := topS 6
theorem sc_is_whole : FnScope ["thing"] ["thing"] (defScope st_is_whole) := ⟨rfl, rfl, rfl, by decide +kernel, rfl, by decide +kernel, by decide +kernel⟩
abbrev st_ends_of : Stmt := topS 10
theorem sc_ends_of : FnScope ["many", "balance", "begin", "rest", "first"] ["many", "balance"] (defScope st_ends_of) := ⟨rfl, rfl, rfl, by decide +kernel, rfl, by decide +kernel, by decide +kernel⟩
abbrev st_Spread_init : Stmt := inClass (topS 14) 0
theorem sc_Spread_init : FnScope ["self", "stretches"] ["self", "stretches"] (defScope st_Spread_init) := ⟨rfl, rfl, rfl, by decide +kernel, rfl, by decide +kernel, by decide +kernel⟩
abbrev st_Spread_shows : Stmt := inClass (topS 14) 1
theorem sc_Spread_shows : FnScope ["self", "heaps"] ["self", "heaps"] (defScope st_Spread_shows) := ⟨rfl, rfl, rfl, by decide +kernel, rfl, by decide +kernel, by decide +kernel⟩
theorem kit_self {K : PySem.W.Frag} {C : Addr} : PySem.W.kitOne K (.ref C) (.ref C) = some true := by
  unfold PySem.W.kitOne
  rw [if_pos (by simp)]
/-- a def of the top, under its name -/
structure DefAt (K : PySem.W.Frag) (mg : Str → Option Value) (x : Str) (st : Stmt) (ps : List Str) : Prop where
  ex : ∃ (f : Addr) (fd : FuncData), L2.Fun K x x st f fd ∧ mg x = some (.ref f) ∧ Binds K fd ps []
/-- a method of the class at C -/
structure MethAt (K : PySem.W.Frag) (C : Addr) (m qual : Str) (st : Stmt) (ps : List Str) : Prop where
  ex : ∃ (f : Addr) (fd : FuncData), L2.Fun K m qual st f fd ∧ Meth K C m f ∧ Binds K fd ps []
/-- a class that is called: its __init__ -/
structure InitAt (K : PySem.W.Frag) (C : Addr) (qual : Str) (st : Stmt) (ps : List Str) : Prop where
  ex : ∃ (f : Addr) (fd : FuncData), L2.Fun K "__init__" qual st f fd ∧ Mk K C f ∧ Binds K fd ps []
/-- an own exception class without an __init__ -/
structure ExcAt (K : PySem.W.Frag) (mg : Str → Option Value) (x : Str) (C : Addr) : Prop where
  gP : mg x = some (.ref C)
  bP : PySem.W.subIn K (.ref C) (.type "BaseException") = some true
  tP : PySem.W.typeIn K (.ref C) = some (.type "type")
  kP : PySem.W.keepIn K (.ref C) = true
  iP : PySem.W.isClsIn K C = true
/-- what the top has left -/
structure Top (K : PySem.W.Frag) (mg : Str → Option Value) : Prop where
  d_spread : DefAt K mg "spread" st_spread ["heaps"]
  d__law_given : DefAt K mg "_law_given" st__law_given ["_law_heaps", "_law_forth"]
  d__law_draw : DefAt K mg "_law_draw" st__law_draw ["_law_cell", "_law_k", "_law_many"]
  d_all_gave : DefAt K mg "all_gave" st_all_gave ["heaps"]
  d__law_cell_at : DefAt K mg "_law_cell_at" st__law_cell_at ["_law_script", "_law_k"]
  d_left : DefAt K mg "left" st_left ["heaps", "place"]
  d_gave : DefAt K mg "gave" st_gave ["heaps", "place"]
  d_check_heaps : DefAt K mg "check_heaps" st_check_heaps ["heaps"]
  d_stretches_of : DefAt K mg "stretches_of" st_stretches_of ["heaps"]
  d_squares_to : DefAt K mg "squares_to" st_squares_to ["place"]
  d_check_place : DefAt K mg "check_place" st_check_place ["place"]
  d_is_heap : DefAt K mg "is_heap" st_is_heap ["thing"]
  d__wall : DefAt K mg "_wall" st__wall ["k"]
  d_clusters_of : DefAt K mg "clusters_of" st_clusters_of ["heaps"]
  d_is_whole : DefAt K mg "is_whole" st_is_whole ["thing"]
  d_ends_of : DefAt K mg "ends_of" st_ends_of ["many", "balance"]
  m_range : mg "range" = none
  m_min : mg "min" = none
  m_len : mg "len" = none
  m_sorted : mg "sorted" = none
  m_sum : mg "sum" = none
  m_any : mg "any" = none
  m_max : mg "max" = none
  m_isinstance : mg "isinstance" = none
  m_list : mg "list" = none
  m_all : mg "all" = none
  m_tuple : mg "tuple" = none
  m_int : mg "int" = none
  m_bool : mg "bool" = none
  m_divmod : mg "divmod" = none
structure Top_Spread (K : PySem.W.Frag) (mg : Str → Option Value) (C_Spread : Addr) : Prop where
  g_Spread : mg "Spread" = some (.ref C_Spread)
  cl_Spread : Cls K C_Spread
  na_Spread_stretches : NoAttr K C_Spread "stretches"
  i_Spread : InitAt K C_Spread "Spread.__init__" st_Spread_init ["self", "stretches"]
  e_Spread_shows : MethAt K C_Spread "shows" "Spread.shows" st_Spread_shows ["self", "heaps"]
end Wk
/-! the walk, part A: data in the heap; is_whole, is_heap, check_heaps, ends_of -/
namespace Wk
open PySem PySem.Spec PyProof.Rows L2 Spr
/-! ### data -/
/-- all tuples stand -/
def Tp (H H' : Hp) : Prop := ∀ b xs, H b = some (.tup xs) → H' b = some (.tup xs)
theorem Tp.refl (H : Hp) : Tp H H := fun _ _ h => h
theorem Tp.trans {H H1 H2 : Hp} (a : Tp H H1) (b : Tp H1 H2) : Tp H H2 := fun c xs h => b c xs (a c xs h)
theorem same_tp {H H' : Hp} (s : Same H H') : Tp H H' := fun b xs h => s b _ h
theorem same_new {H : Hp} {p : Addr} {o : HO} (h : H p = none) : Same H (upd H p o) := fun b x e => by
  rw [upd_ne (ne_of_none e h)]
  exact e
/-- a thing that H did not know may change -/
theorem same_mut {H H' : Hp} {p : Addr} {o : HO} (s : Same H H') (h : H p = none) : Same H (upd H' p o) := fun b x e => by
  rw [upd_ne (ne_of_none e h)]
  exact s b x e
theorem tp_new {H : Hp} {p : Addr} {o : HO} (h : H p = none) : Tp H (upd H p o) := same_tp (same_new h)
theorem tp_mut {H : Hp} {p : Addr} {o : HO} {xs : List V} (h : H p = some (.lst xs)) : Tp H (upd H p o) := fun b ys e => by
  rw [upd_ne (ne_of e h (fun z => nomatch z))]
  exact e
/-- a pair of ints -/
def PT (H : Hp) (v : V) (h : I2) : Prop := ∃ t, v = .ref t ∧ H t = some (.tup [.int h.1, .int h.2])
theorem PT.mono {H H' : Hp} (s : Tp H H') {v : V} {h : I2} (p : PT H v h) : PT H' v h := by
  obtain ⟨t, e, q⟩ := p
  exact ⟨t, e, s _ _ q⟩
abbrev PTs (H : Hp) (xs : List V) (hs : List I2) : Prop := Paired (PT H) xs hs
theorem PTs.mono {H H' : Hp} (s : Tp H H') {xs : List V} {hs : List I2} (p : PTs H xs hs) : PTs H' xs hs := Paired.mapP p fun _ _ q => q.mono s
section
variable {α β : Type} {R : α → β → Prop}
theorem pr_len {xs : List α} {ys : List β} (p : Paired R xs ys) : xs.length = ys.length := Paired.length p
theorem pr_get : ∀ {xs : List α} {ys : List β} {i : Nat} {x : α}, Paired R xs ys → xs[i]? = some x → ∃ y, ys[i]? = some y ∧ R x y
  | _, _, _, _, .nil, e => by simp at e
  | _, _, 0, _, .cons r _, e => by simp at e; subst e; exact ⟨_, rfl, r⟩
  | _, _, i + 1, x, .cons _ t, e => by
    obtain ⟨u, h1, h2⟩ := pr_get (i := i) (x := x) t (by simpa using e)
    exact ⟨u, by simpa using h1, h2⟩
theorem pr_get2 : ∀ {xs : List α} {ys : List β} {i : Nat} {y : β}, Paired R xs ys → ys[i]? = some y → ∃ x, xs[i]? = some x ∧ R x y
  | _, _, _, _, .nil, e => by simp at e
  | _, _, 0, _, .cons r _, e => by simp at e; subst e; exact ⟨_, rfl, r⟩
  | _, _, i + 1, y, .cons _ t, e => by
    obtain ⟨u, h1, h2⟩ := pr_get2 (i := i) (y := y) t (by simpa using e)
    exact ⟨u, by simpa using h1, h2⟩
theorem pr_app : ∀ {xs xs' : List α} {ys ys' : List β}, Paired R xs ys → Paired R xs' ys' → Paired R (xs ++ xs') (ys ++ ys')
  | _, _, _, _, .nil, q => q
  | _, _, _, _, .cons r p, q => .cons r (pr_app p q)
theorem pr_take : ∀ {xs : List α} {ys : List β} (n : Nat), Paired R xs ys → Paired R (xs.take n) (ys.take n)
  | _, _, 0, _ => .nil
  | _, _, _ + 1, .nil => .nil
  | _, _, n + 1, .cons r t => .cons r (pr_take n t)
theorem pr_drop : ∀ {xs : List α} {ys : List β} (n : Nat), Paired R xs ys → Paired R (xs.drop n) (ys.drop n)
  | _, _, 0, r => r
  | _, _, _ + 1, .nil => .nil
  | _, _, n + 1, .cons _ t => pr_drop n t
theorem pr_rev : ∀ {xs : List α} {ys : List β}, Paired R xs ys → Paired R xs.reverse ys.reverse
  | _, _, .nil => .nil
  | _, _, .cons r t => by
    rw [List.reverse_cons, List.reverse_cons]
    exact pr_app (pr_rev t) (.cons r .nil)
theorem pr_mem : ∀ {xs : List α} {ys : List β} {x : α}, Paired R xs ys → x ∈ xs → ∃ y ∈ ys, R x y
  | _, _, _, .nil, m => nomatch m
  | _, _, x, .cons r t, m => by
    rcases List.mem_cons.mp m with e | m
    · subst e; exact ⟨_, List.mem_cons_self, r⟩
    · obtain ⟨y, my, q⟩ := pr_mem t m
      exact ⟨y, List.mem_cons_of_mem _ my, q⟩
theorem pr_snoc {xs : List α} {ys : List β} {x : α} {y : β} (p : Paired R xs ys) (r : R x y) : Paired R (xs ++ [x]) (ys ++ [y]) := pr_app p (.cons r .nil)
theorem pr_split : ∀ {xs : List α} {ys : List β} {y : β}, Paired R xs (ys ++ [y]) → ∃ xs' x, xs = xs' ++ [x] ∧ Paired R xs' ys ∧ R x y
  | _, [], _, .cons r .nil => ⟨[], _, rfl, .nil, r⟩
  | _, z :: ys, y, .cons r t => by
    obtain ⟨xs', x, e, p, q⟩ := pr_split (ys := ys) t
    subst e
    exact ⟨_ :: xs', x, rfl, .cons r p, q⟩
end
/-- a list of pairs of ints, its own or handed in -/
def PL (H : Hp) (a : Addr) (hs : List I2) : Prop := ∃ xs, H a = some (.lst xs) ∧ PTs H xs hs
theorem PL.mono {H H' : Hp} (s : Same H H') {a : Addr} {hs : List I2} (p : PL H a hs) : PL H' a hs := by
  obtain ⟨xs, e, q⟩ := p
  exact ⟨xs, s _ _ e, q.mono (same_tp s)⟩
/-- heaps in reach: counts 0 or more, nothing beyond 2 ^ 200, a thousand at most -/
structure HB (hs : List I2) : Prop where
  len : hs.length ≤ 1000
  pos : ∀ h ∈ hs, 0 ≤ h.2
  w1 : ∀ h ∈ hs, h.1.natAbs < 2 ^ 200
  w2 : ∀ h ∈ hs, h.2.natAbs < 2 ^ 200
/-! ### great numbers -/
def Wd (k : Nat) (i : Int) : Prop := i.natAbs < 2 ^ k
theorem Wd.mono {a b : Nat} {i : Int} (h : Wd a i) (e : a ≤ b) : Wd b i := Nat.lt_of_lt_of_le h (Nat.pow_le_pow_right (by decide) e)
theorem Wd.mul {a b : Nat} {i j : Int} (h : Wd a i) (g : Wd b j) : Wd (a + b) (i * j) := wide_lt h g
theorem Wd.add {a b : Nat} {i j : Int} (h : Wd a i) (g : Wd b j) : Wd (a + b + 1) (i + j) := by
  have h1 : i.natAbs < 2 ^ a := h
  have h2 : j.natAbs < 2 ^ b := g
  have e1 : 2 ^ a ≤ 2 ^ (a + b) := Nat.pow_le_pow_right (by decide) (by omega)
  have e2 : 2 ^ b ≤ 2 ^ (a + b) := Nat.pow_le_pow_right (by decide) (by omega)
  show (i + j).natAbs < 2 ^ (a + b + 1)
  rw [Nat.pow_succ]
  omega
theorem Wd.neg {a : Nat} {i : Int} (h : Wd a i) : Wd a (-i) := by
  show (-i).natAbs < 2 ^ a
  rw [Int.natAbs_neg]
  exact h
theorem Wd.sub {a b : Nat} {i j : Int} (h : Wd a i) (g : Wd b j) : Wd (a + b + 1) (i - j) := by
  rw [Int.sub_eq_add_neg]
  exact h.add g.neg
theorem Wd.div {a : Nat} {i : Int} (h : Wd a i) (j : Int) : Wd a (i / j) := by
  have h1 : i.natAbs < 2 ^ a := h
  show (i / j).natAbs < 2 ^ a
  exact Nat.lt_of_le_of_lt (Int.natAbs_ediv_le_natAbs _ _) h1
theorem Wd.cmul {a b : Nat} {i j : Int} (h : Wd a i) (g : Wd b j) (h0 : 0 < a := by decide) (h1 : 0 < b := by decide) (e : a + b ≤ 1000000 := by decide) : CMulW i j := wide_mul h g h0 h1 e
/-! ### a def by its body -/
section
variable {P : Program} {w : World} {K : PySem.W.Frag} {mg : Str → Option Value} {base : Heap}
theorem DefAt.cal {x : Str} {st : Stmt} {N ps : List Str} {k : Nat} {sp : Sp} (D : DefAt K mg x st ps) (S : FnScope N ps (defScope st)) (len : ∀ vs H Q E, sp vs H Q E → vs.length = ps.length)
    (hbody : ∀ (f : Addr) (cdv : Value) (A : Around) (outer : List Env) (s : Shared) (H : Hp) (vs : List V) (Q : VK) (E : XK), Room k (A.deeper (envOfC x (defScope st) s.heap.objs.size f cdv)) → sp vs H Q E →
      ∃ t, PSs (cxOf CX0 P w K mg base N x (defScope st) f cdv A outer s H E).nox (defBody st) t ∧ t { nx := fun _ H' => Q .non H', rt := Q } (start N vs) H) : C8.Cal P w K mg base (k + 1) x sp [] := by
  obtain ⟨f, fd, F, hm, b⟩ := D.ex
  exact ⟨f, fd, ps, [], F.ok S len (fun cdv A outer s H vs Q E hr h => hbody f cdv A outer s H vs Q E hr h), hm, F.kp, b, .nil⟩
/-! ### is_whole -/
def isi (a b : String) : Bool := (kitB a b).getD false
def spWhole (K : PySem.W.Frag) : Sp := fun vs H Q _ => ∃ x n, vs = [x] ∧ TyX K H x (.type n) ∧ n ∈ ["NoneType", "bool", "int", "str", "list", "tuple", "dict"] ∧ Q (.bl (n == "int")) H
theorem cal_is_whole (T : Top K mg) : C8.Cal P w K mg base 1 "is_whole" (spWhole K) [] := by
  refine T.d_is_whole.cal sc_is_whole (fun vs H Q E h => ?_) (fun f cdv A outer s H vs Q E hr h => ?_)
  · obtain ⟨x, n, rfl, _⟩ := h
    rfl
  · obtain ⟨x, n, rfl, ty, hn, q⟩ := h
    refine ⟨_, (pss_one (ps_ret (pe_and (pe_callB call_isi (by rfl) T.m_isinstance (by decide +kernel) (pa_cons (pv 0) (pa_cons (pe_bltn (v := .ty "int") (by rfl) T.m_int (by decide +kernel) rfl) pa_nil))) (pe_one (pe_not (pe_callB call_isi (by rfl) T.m_isinstance (by decide +kernel) (pa_cons (pv 0) (pa_cons (pe_bltn (v := .ty "bool") (by rfl) T.m_bool (by decide +kernel) rfl) pa_nil)))))))), ?_⟩
    obtain ⟨b, c, hb, hc, e⟩ : ∃ b c : Bool, kitB n "int" = some b ∧ kitB n "bool" = some c ∧ (b && !c) = (n == "int") := by
      simp only [List.mem_cons, List.not_mem_nil, or_false] at hn
      rcases hn with rfl | rfl | rfl | rfl | rfl | rfl | rfl
      · exact ⟨false, false, by decide +kernel⟩
      · exact ⟨true, true, by decide +kernel⟩
      · exact ⟨true, false, by decide +kernel⟩
      · exact ⟨false, false, by decide +kernel⟩
      · exact ⟨false, false, by decide +kernel⟩
      · exact ⟨false, false, by decide +kernel⟩
      · exact ⟨false, false, by decide +kernel⟩
    refine ⟨x, rfl, x, .ty "int", .type n, .type "int", b, rfl, .ty "int", ty, kit_ty hb, b, rfl, ?_⟩
    cases b with
    | false =>
      refine iteF ?_
      rw [← e] at q
      exact q
    | true =>
      refine iteT ?_
      refine ⟨x, rfl, x, .ty "bool", .type n, .type "bool", c, rfl, .ty "bool", ty, kit_ty hc, c, rfl, ?_⟩
      rw [← e] at q
      exact q
/-! ### is_heap -/
def isHeapD : PyData → Bool
  | .tuple [.int _, .int c] => decide (0 ≤ c)
  | _ => false
def tyD : PyData → String
  | .none => "NoneType"
  | .bool _ => "bool"
  | .int _ => "int"
  | .str _ => "str"
  | .list _ => "list"
  | .tuple _ => "tuple"
  | .dict _ => "dict"
theorem tyD_mem (d : PyData) : tyD d ∈ ["NoneType", "bool", "int", "str", "list", "tuple", "dict"] := by cases d <;> simp [tyD]
theorem dp_ty {H : Hp} {v : V} {d : PyData} (h : Dp K H v d) : TyX K H v (.type (tyD d)) := by
  cases h with
  | non => exact .base .non
  | bl b => exact .base (.bl b)
  | int i => exact .base (.int i)
  | str x => exact .base (.str x)
  | lst hs _ =>
    rcases hs with (h | ⟨o, h⟩) | ⟨o, its, n, h1, h2, _⟩
    · exact .base (.lst h)
    · exact .base (.frz h)
    · exact .kList h1 h2
  | tup hs _ =>
    rcases hs with (h | ⟨o, h⟩) | ⟨o, its, n, h1, h2, _⟩
    · exact .base (.tup h)
    · exact .fTuple h
    · exact .kTuple h1 h2
theorem dp_len {H : Hp} : ∀ {xs : List V} {ds : List PyData}, DpAll K H xs ds → xs.length = ds.length
  | _, _, .nil => rfl
  | _, _, .cons _ t => congrArg (· + 1) (dp_len t)
def spHeap (K : PySem.W.Frag) : Sp := fun vs H Q _ => ∃ v d, vs = [v] ∧ Dp K H v d ∧ Q (.bl (isHeapD d)) H
theorem cal_is_heap (T : Top K mg) : C8.Cal P w K mg base 2 "is_heap" (spHeap K) [] := by
  have c_is_whole : C8.Cal P w K mg base 1 "is_whole" (spWhole K) [] := cal_is_whole T
  refine T.d_is_heap.cal sc_is_heap (fun vs H Q E h => ?_) (fun f cdv A outer s H vs Q E hr h => ?_)
  · obtain ⟨v, d, rfl, _⟩ := h
    rfl
  · obtain ⟨v, d, rfl, dp, q⟩ := h
    refine ⟨_, (pss_cons (ps_if (PW.pt (pw_or (pt_not (pt_val (pe_callB call_isi (by rfl) T.m_isinstance (by decide +kernel) (pa_cons (pv 0) (pa_cons (pe_bltn (v := .ty "tuple") (by rfl) T.m_tuple (by decide +kernel) rfl) pa_nil))))) (pw_or (pt_cmpR op_ne (pe_callB call_len_seq (by rfl) T.m_len (by decide +kernel) (pa_cons (pv 0) pa_nil)) pe_int (nomark _)) (pw_or (pt_not (pt_val (C8.pe_c c_is_whole hr (by decide) (by rfl) (pa_cons (pe_ix ix_tup (pv 0) pe_int (fun _ _ => rfl)) pa_nil)))) (pw_or1 (pt_not (pt_val (C8.pe_c c_is_whole hr (by decide) (by rfl) (pa_cons (pe_ix ix_tup (pv 0) pe_int (fun _ _ => rfl)) pa_nil)))))))))
 (pss_one (ps_ret pe_bl))
 pss_nil)
 (pss_one (ps_ret (pe_cmpR op_ge (pe_ix ix_tup (pv 0) pe_int (fun _ _ => rfl)) pe_int (nomark _))))), ?_⟩
    have ty := dp_ty dp
    by_cases ht : ∃ ds, d = .tuple ds
    · obtain ⟨ds, rfl⟩ := ht
      cases dp with
      | @tup a xs _ hT hx =>
      refine ⟨_, rfl, _, .ty "tuple", .type "tuple", .type "tuple", true, rfl, .ty "tuple", ty, kit_ty (by decide +kernel), true, rfl, iteF ?_⟩
      refine ⟨_, rfl, a, xs, rfl, .inr hT, rfl, _, rfl, ?_⟩
      by_cases h2 : (V.int (xs.length : Int)) = V.int 2
      · have h3 : xs.length = 2 := by
          injection h2 with h2
          omega
        rw [decide_eq_true h2]
        refine iteF ?_
        obtain ⟨x0, x1, rfl⟩ : ∃ x0 x1, xs = [x0, x1] := by
          match xs, h3 with
          | [x0, x1], _ => exact ⟨x0, x1, rfl⟩
        cases hx with
        | cons d0 r0 =>
        cases r0 with
        | cons d1 r1 =>
        cases r1
        rename_i e0 e1
        refine ⟨_, rfl, a, _, 0, x0, rfl, rfl, hT, atI_nat (j := 0) rfl, x0, _, rfl, dp_ty d0, tyD_mem _, _, rfl, ?_⟩
        cases d0 with
        | int i =>
          refine iteF ?_
          refine ⟨_, rfl, a, _, 1, x1, rfl, rfl, hT, atI_nat (j := 1) rfl, x1, _, rfl, dp_ty d1, tyD_mem _, _, rfl, ?_⟩
          cases d1 with
          | int j =>
            refine iteF ?_
            exact ⟨_, rfl, a, _, 1, _, rfl, rfl, hT, atI_nat (j := 1) rfl, j, 0, rfl, rfl, q⟩
          | non => exact iteT q
          | bl b => exact iteT q
          | str x => exact iteT q
          | lst _ _ => exact iteT q
          | tup _ _ => exact iteT q
        | non => exact iteT (iteT q)
        | bl b => exact iteT (iteT q)
        | str x => exact iteT (iteT q)
        | lst _ _ => exact iteT (iteT q)
        | tup _ _ => exact iteT (iteT q)
      · rw [decide_eq_false h2]
        refine iteT (iteT ?_)
        have e : isHeapD (.tuple ds) = false := by
          have hl := dp_len hx
          match ds, hl with
          | [], _ => rfl
          | [d0], _ => cases d0 <;> rfl
          | [_, _], hl => exact absurd (congrArg (fun n : Nat => V.int (n : Int)) hl) h2
          | d0 :: d1 :: d2 :: r, _ => cases d0 <;> first | rfl | (cases d1 <;> rfl)
        rw [e] at q
        exact q
    · have e : isHeapD d = false := by
        cases d with
        | tuple ds => exact absurd ⟨ds, rfl⟩ ht
        | _ => rfl
      have hb : kitB (tyD d) "tuple" = some false := by
        cases d with
        | tuple ds => exact absurd ⟨ds, rfl⟩ ht
        | none => decide +kernel
        | bool b => show kitB "bool" "tuple" = _; decide +kernel
        | int b => show kitB "int" "tuple" = _; decide +kernel
        | str b => show kitB "str" "tuple" = _; decide +kernel
        | list b => show kitB "list" "tuple" = _; decide +kernel
        | dict b => show kitB "dict" "tuple" = _; decide +kernel
      rw [e] at q
      exact ⟨_, rfl, _, .ty "tuple", .type (tyD d), .type "tuple", false, rfl, .ty "tuple", ty, kit_ty hb, false, rfl, iteT (iteT q)⟩
/-! ### check_heaps, of heaps -/
def pairD (h : I2) : PyData := .tuple [.int h.1, .int h.2]
theorem PTs.dp {H : Hp} : ∀ {xs : List V} {hs : List I2}, PTs H xs hs → DpAll K H xs (hs.map pairD)
  | _, _, .nil => .nil
  | _, _, .cons r t => by
    obtain ⟨a, rfl, e⟩ := r
    exact .cons (.tup (SqT.of e) (.cons (.int _) (.cons (.int _) .nil))) (PTs.dp t)
theorem PL.dp {H : Hp} {a : Addr} {hs : List I2} (p : PL H a hs) : Dp K H (.ref a) (.list (hs.map pairD)) := by
  obtain ⟨xs, e, q⟩ := p
  exact .lst (SqL.of e) q.dp
def spCheck (K : PySem.W.Frag) : Sp := fun vs H Q _ => ∃ v ds, vs = [v] ∧ Dp K H v (.list ds) ∧ ds.all isHeapD = true ∧ ds.length < 100000 ∧ ∀ H', Same H H' → Q .non H'
theorem dpAll_get {H : Hp} : ∀ {xs : List V} {ds : List PyData} {i : Nat} {x : V}, DpAll K H xs ds → xs[i]? = some x → ∃ d, ds[i]? = some d ∧ Dp K H x d
  | _, _, _, _, .nil, e => by simp at e
  | _, _, 0, _, .cons r _, e => by simp at e; subst e; exact ⟨_, rfl, r⟩
  | _, _, i + 1, x, .cons _ t, e => by
    obtain ⟨u, h1, h2⟩ := dpAll_get (i := i) (x := x) t (by simpa using e)
    exact ⟨u, by simpa using h1, h2⟩
theorem same_sqL {H H' : Hp} (s : Same H H') {a : Addr} {xs : List V} (h : SqL K H a xs) : SqL K H' a xs := s.seq h
theorem same_sqT {H H' : Hp} (s : Same H H') {a : Addr} {xs : List V} (h : SqT K H a xs) : SqT K H' a xs := by
  rcases h with (h | ⟨o, h⟩) | h
  · exact .inl (.inl (s _ _ h))
  · exact .inl (.inr ⟨o, s _ _ h⟩)
  · exact .inr h
mutual
theorem dp_mono {H H' : Hp} (s : Same H H') : ∀ {d : PyData} {v : V}, Dp K H v d → Dp K H' v d
  | _, _, .non => .non
  | _, _, .bl b => .bl b
  | _, _, .int i => .int i
  | _, _, .str x => .str x
  | _, _, .lst h t => .lst (same_sqL s h) (dpAll_mono s t)
  | _, _, .tup h t => .tup (same_sqT s h) (dpAll_mono s t)
theorem dpAll_mono {H H' : Hp} (s : Same H H') : ∀ {ds : List PyData} {vs : List V}, DpAll K H vs ds → DpAll K H' vs ds
  | _, _, .nil => .nil
  | _, _, .cons r t => .cons (dp_mono s r) (dpAll_mono s t)
end
theorem take_snoc {α : Type} {l : List α} {i : Nat} {x : α} (h : l[i]? = some x) : l.take (i + 1) = l.take i ++ [x] := by
  rw [List.take_add_one, h]
  rfl
theorem yesT {σ : L2.St} {H : Hp} {A B : Hp → Prop} (h : A H) : tYes σ H fun b H3 => if b = true then A H3 else B H3 := by
  show (if true = true then A H else B H)
  rw [if_pos rfl]
  exact h
theorem cal_check_heaps (T : Top K mg) : C8.Cal P w K mg base 3 "check_heaps" (spCheck K) [] := by
  have c_is_heap : C8.Cal P w K mg base 2 "is_heap" (spHeap K) [] := cal_is_heap T
  refine T.d_check_heaps.cal sc_check_heaps (fun vs H Q E h => ?_) (fun f cdv A outer s H vs Q E hr h => ?_)
  · obtain ⟨v, d, rfl, _⟩ := h
    rfl
  · obtain ⟨v, ds, rfl, dp, hall, hlen, q⟩ := h
    refine ⟨_, (pss_one (ps_if (PW.pt (pw_or (pt_not (pt_val (pe_callB call_isi (by rfl) T.m_isinstance (by decide +kernel) (pa_cons (pv 0) (pa_cons (pe_bltn (v := .ty "list") (by rfl) T.m_list (by decide +kernel) rfl) pa_nil))))) (pw_or1 (pt_not (pt_val (pe_callB (cr_all rfl) (by rfl) T.m_all (by decide +kernel) (pa_cons (pe_lc (own := [("heap", 1)]) (g := (gName 1)) rfl sc_check_heaps.nd (pi_list (pv 0)) (blkOk_by (own := [("heap", 1)]) (N := ["heaps", "heap"]) (sc := defScope st_check_heaps) (by decide +kernel)) (fun _ _ _ _ _ => (pg_name (i := 1) sc_check_heaps.nd rfl (Or.inl rfl))) (fun _ _ _ _ _ => pts_nil) (fun _ _ _ _ _ => (C8.pe_c c_is_heap hr (by decide) (by rfl) (pa_cons (pv 1) pa_nil)))) pa_nil)))))))
 (pss_one ps_never)
 pss_nil)), ?_⟩
    have ty := dp_ty dp
    cases dp with
    | @lst a xs _ hL hx =>
    have lx := dp_len hx
    refine ⟨_, rfl, _, .ty "list", .type "list", .type "list", true, rfl, .ty "list", ty, kit_ty (by decide +kernel), true, rfl, iteF ?_⟩
    -- [is_heap(heap) for heap in heaps]
    refine ⟨_, rfl, a, rfl, ⟨_, hL⟩, fun D nD => ?_⟩
    refine lc_list (K := K) (a := a) (xs := xs) (fun i H1 => Same H H1 ∧ H1 D = some (.lst (((ds.take i).map isHeapD).map V.bl))) ⟨same_new nD, by rw [upd_same]; rfl⟩ (fun i H1 _ p => p.1.seq hL) ?_ ?_
    · rintro i x H1 hi ⟨s1, e1⟩
      obtain ⟨d, hd, dx⟩ := dpAll_get hx hi
      have hil : i < ds.length := (List.getElem?_eq_some_iff.mp hd).1
      refine ⟨rfl, yesT ?_⟩
      refine ⟨x, rfl, x, d, rfl, dp_mono s1 dx, _, e1, ?_, same_mut s1 nD, ?_⟩
      · rw [List.length_map, List.length_map, List.length_take]
        exact Evl.sz_lt (by omega)
      · rw [upd_same, take_snoc hd, List.map_append, List.map_append]
        rfl
    · rintro H1 ⟨s1, e1⟩
      refine ⟨D, (ds.take xs.length).map isHeapD, rfl, SqL.of e1, _, rfl, ?_⟩
      rw [lx, List.take_length, List.all_map]
      have e : ds.all (id ∘ isHeapD) = true := hall
      rw [e]
      exact iteF (q H1 s1)
end
end Wk
/-! the walk, part B: ends_of, clusters_of, stretches_of -/
namespace Wk
open PySem PySem.Spec PyProof.Rows L2 Spr
section
variable {P : Program} {w : World} {K : PySem.W.Frag} {mg : Str → Option Value} {base : Heap}
def optV : Option Int → V
  | none => .non
  | some e => .int e
theorem wd1 : Wd 1 1 := by unfold Wd; decide
theorem divp_wd {i j : Int} {a : Nat} (hj : 0 < j) (h : Wd a i) (h0 : 0 < a) (ha : a ≤ 3000) : CDivP i j := by
  refine divp_ok hj ?_
  have x := PySem.Flt.log2_lt_of h0 h
  unfold Builtin.Int.intBits
  split <;> split <;> omega
def spEnds : Sp := fun vs H Q _ => ∃ n b : Int, vs = [.int n, .int b] ∧ 0 < n ∧ Wd 220 n ∧ Wd 460 b ∧
  ∀ H' p, Same H H' → H p = none → H' p = some (.tup [.int (firstOf (n, b)), .int (lastOf (n, b)), optV (emptyOf (n, b))]) → Q (.ref p) H'
theorem cal_ends_of (T : Top K mg) : C8.Cal P w K mg base 1 "ends_of" spEnds [] := by
  refine T.d_ends_of.cal sc_ends_of (fun vs H Q E h => ?_) (fun f cdv A outer s H vs Q E hr h => ?_)
  · obtain ⟨n, b, rfl, _⟩ := h
    rfl
  · obtain ⟨n, b, rfl, hn, wn, wb, q⟩ := h
    refine ⟨_, (pss_cons (ps_asg (pe_callB call_divmodW (by rfl) T.m_divmod (by decide +kernel) (pa_cons (pe_op op_sub (pv 1) (pe_op op_fdiv (pe_op op_mulW (pv 0) (pe_op op_add (pv 0) pe_int)) pe_int)) (pa_cons (pv 0) pa_nil))) (pg_tup rfl (pgs_cons (pg_name (i := 2) sc_ends_of.nd rfl (Or.inl rfl)) (pgs_cons (pg_name (i := 3) sc_ends_of.nd rfl (Or.inl rfl)) pgs_nil))))
 (pss_cons (ps_set (i := 4) sc_ends_of.nd rfl (Or.inl rfl) (pe_op op_add (pv 2) pe_int))
 (pss_cons (ps_if (pt_cmpR op_eq (pv 3) pe_int (nomark _))
 (pss_one (ps_ret (pe_tup (pa_cons (pv 4) (pa_cons (pe_op op_add (pv 2) (pv 0)) (pa_cons pe_non pa_nil))))))
 pss_nil)
 (pss_one (ps_ret (pe_tup (pa_cons (pv 4) (pa_cons (pe_op op_add (pv 4) (pv 0)) (pa_cons (pe_op op_sub (pe_op op_add (pe_op op_mulW (pe_op op_add (pv 0) pe_int) (pv 4)) (pe_op op_fdiv (pe_op op_mulW (pv 0) (pe_op op_add (pv 0) pe_int)) pe_int)) (pv 1)) pa_nil))))))))), ?_⟩
    have w1 : Wd 222 (n + 1) := wn.add wd1
    have w2 : Wd 442 (n * (n + 1) / 2) := (wn.mul w1).div 2
    have w3 : Wd 903 (b - n * (n + 1) / 2) := wb.sub w2
    have cm : CMulW n (n + 1) := wn.cmul w1
    refine ⟨_, rfl, _, rfl, _, rfl, _, _, rfl, rfl, _, _, rfl, rfl, cm, _, _, rfl, rfl, ⟨by decide, by decide⟩, _, _, rfl, rfl, _, rfl, _, _, rfl, divp_wd hn w3 (by decide) (by decide), fun p hp => ?_⟩
    refine ⟨p, _, rfl, SqT.of upd_same, rfl, _, _, rfl, _, _, rfl, rfl, ?_⟩
    refine ⟨_, rfl, _, _, rfl, rfl, ?_⟩
    have s1 : Same H _ := same_new (o := .tup [.int ((b - n * (n + 1) / 2) / n), .int ((b - n * (n + 1) / 2) % n)]) hp
    refine ⟨_, rfl, rfl, _, rfl, ite2 (fun e => ?_) (fun e => ?_)⟩
    · have e0 : (b - n * (n + 1) / 2) % n = 0 := V.int.inj (of_decide_eq_true e)
      have ee : endsOf n b = ((b - n * (n + 1) / 2) / n + 1, (b - n * (n + 1) / 2) / n + n, none) := if_pos e0
      refine ⟨_, rfl, _, rfl, _, rfl, _, _, rfl, rfl, (by show 3 ≤ sizeLine; decide), fun t ht => ?_⟩
      refine q _ t (s1.trans (same_new ht)) (s1.free ht) ?_
      rw [upd_same]
      unfold firstOf lastOf emptyOf
      rw [ee]
      rfl
    · have e0 : ¬ (b - n * (n + 1) / 2) % n = 0 := fun z => e (decide_eq_true (congrArg V.int z))
      have ee : endsOf n b = ((b - n * (n + 1) / 2) / n + 1, (b - n * (n + 1) / 2) / n + 1 + n, some ((n + 1) * ((b - n * (n + 1) / 2) / n + 1) + n * (n + 1) / 2 - b)) := if_neg e0
      have cm2 : CMulW (n + 1) ((b - n * (n + 1) / 2) / n + 1) := w1.cmul ((w3.div n).add wd1)
      refine ⟨_, rfl, _, rfl, _, rfl, _, _, rfl, rfl, _, rfl, _, _, rfl, rfl, _, rfl, _, _, rfl, rfl, cm2, _, rfl, _, rfl, _, _, rfl, rfl, _, _, rfl, rfl, cm, _, _, rfl, rfl, ⟨by decide, by decide⟩, _, _, rfl, rfl, _, rfl, _, _, rfl, rfl, (by show 3 ≤ sizeLine; decide), fun t ht => ?_⟩
      refine q _ t (s1.trans (same_new ht)) (s1.free ht) ?_
      rw [upd_same]
      unfold firstOf lastOf emptyOf
      rw [ee]
      rfl
/-! ### sorted -/
/-- the pair that stands at v -/
def kOf (H : Hp) (v : V) : I2 := match v with
  | .ref t => (match H t with | some (.tup [.int a, .int b]) => (a, b) | _ => (0, 0))
  | _ => (0, 0)
theorem PT.key {H : Hp} {v : V} {h : I2} (p : PT H v h) : kOf H v = h := by
  obtain ⟨t, rfl, e⟩ := p
  show (match H t with | some (.tup [.int a, .int b]) => (a, b) | _ => (0, 0)) = h
  rw [e]
theorem PTs.key {H : Hp} : ∀ {xs : List V} {hs : List I2}, PTs H xs hs → xs.map (kOf H) = hs
  | _, _, .nil => rfl
  | _, _, .cons r t => by rw [List.map_cons, r.key, PTs.key t]
theorem PTs.of_map {H : Hp} : ∀ {xs : List V}, (∀ x ∈ xs, ∃ h, PT H x h) → PTs H xs (xs.map (kOf H))
  | [], _ => .nil
  | x :: xs, h => by
    obtain ⟨k, p⟩ := h x List.mem_cons_self
    have e := p.key
    rw [List.map_cons, e]
    exact .cons p (PTs.of_map fun y m => h y (List.mem_cons_of_mem _ m))
/-- what sorted gives of pairs -/
theorem sorted_is {H : Hp} {xs ys : List V} {hs : List I2} (p : PTs H xs hs) (h1 : SrtO.Srtd (ltP (kOf H)) ys) (h2 : SrtO.Stb (ltP (kOf H)) ys xs) : PTs H ys (srt hs) := by
  have e1 : (ys.map (kOf H)).Perm hs := by
    rw [← p.key]
    exact h2.perm.map _
  have e2 : (ys.map (kOf H)).Pairwise (fun a b => leP a b = true) := by
    refine List.pairwise_map.mpr (h1.imp fun {x y} q => ?_)
    have q2 := SrtO.lexB_no.mp (show SrtO.lexB (kOf H y) (kOf H x) = false from q)
    rw [leP_iff]
    omega
  have e3 := srt_of e1 e2
  rw [← e3]
  refine PTs.of_map fun y m => ?_
  obtain ⟨h, _, r⟩ := pr_mem p (h2.perm.mem_iff.mp m)
  exact ⟨h, r⟩
theorem PT.tup {H : Hp} {x : V} {h : I2} (p : PT H x h) : ∃ t, x = V.ref t ∧ H t = some (.tup [.int (kOf H x).1, .int (kOf H x).2]) := by
  have e := p.key
  obtain ⟨t, rfl, q⟩ := p
  exact ⟨t, rfl, by rw [e]; exact q⟩
/-! ### clusters_of -/
def clV (c : I2) : List V := [.int c.1, .int c.2, .int (firstOf c), .int (lastOf c), optV (emptyOf c)]
def CT (H : Hp) (v : V) (c : I2) : Prop := ∃ t, v = .ref t ∧ H t = some (.tup (clV c))
theorem CT.mono {H H' : Hp} (s : Tp H H') {v : V} {c : I2} (p : CT H v c) : CT H' v c := by
  obtain ⟨t, e, q⟩ := p
  exact ⟨t, e, s _ _ q⟩
abbrev CTs (H : Hp) (xs : List V) (cs : List I2) : Prop := Paired (CT H) xs cs
theorem CTs.mono {H H' : Hp} (s : Tp H H') {xs : List V} {cs : List I2} (p : CTs H xs cs) : CTs H' xs cs := Paired.mapP p fun _ _ q => q.mono s
def optD : Option Int → PyData
  | none => .none
  | some e => .int e
def clD (c : I2) : PyData := .tuple [.int c.1, .int c.2, .int (firstOf c), .int (lastOf c), optD (emptyOf c)]
theorem CTs.dp {H : Hp} : ∀ {xs : List V} {cs : List I2}, CTs H xs cs → DpAll K H xs (cs.map clD)
  | _, _, .nil => .nil
  | _, c :: _, .cons r t => by
    obtain ⟨a, rfl, e⟩ := r
    refine .cons (.tup (SqT.of e) (.cons (.int _) (.cons (.int _) (.cons (.int _) (.cons (.int _) (.cons ?_ .nil)))))) (CTs.dp t)
    cases emptyOf c with
    | none => exact .non
    | some e => exact .int e
theorem clD_lay (c : I2) : PyData.canLay0 (clD c) = true ∧ PyData.depth (clD c) = 1 := by
  unfold clD
  cases emptyOf c <;> exact ⟨rfl, rfl⟩
theorem pairD_lay (c : I2) : PyData.canLay0 (pairD c) = true ∧ PyData.depth (pairD c) = 1 := ⟨rfl, rfl⟩
theorem lay_map {f : I2 → PyData} (hf : ∀ c, PyData.canLay0 (f c) = true ∧ PyData.depth (f c) = 1) : ∀ cs : List I2, PyData.canLayAll0 (cs.map f) = true ∧ PyData.depthAll (cs.map f) ≤ 1
  | [] => ⟨rfl, Nat.zero_le _⟩
  | c :: cs => by
    obtain ⟨h1, h2⟩ := lay_map hf cs
    obtain ⟨g1, g2⟩ := hf c
    refine ⟨?_, ?_⟩
    · show (PyData.canLay0 (f c) && PyData.canLayAll0 (cs.map f)) = true
      rw [g1, h1]; rfl
    · show max (PyData.depth (f c)) (PyData.depthAll (cs.map f)) ≤ 1
      rw [g2]
      omega
theorem shaped_map {f : I2 → PyData} (hf : ∀ c, PyData.canLay0 (f c) = true ∧ PyData.depth (f c) = 1) (cs : List I2) : SeqAt.shaped (.list (cs.map f)) = true := by
  obtain ⟨h1, h2⟩ := lay_map hf cs
  unfold SeqAt.shaped
  rw [Bool.and_eq_true]
  refine ⟨h1, decide_eq_true ?_⟩
  show PyData.depthAll (cs.map f) + 1 ≤ 64
  omega
theorem shaped_nil : SeqAt.shaped (.list []) = true := by decide +kernel
theorem eqv_nil (f : I2 → PyData) : ∀ cs : List I2, PyData.eqv (.list (cs.map f)) (.list []) = decide (cs = [])
  | [] => by
    show PyData.eqvAll [] [] = _
    rw [PyData.eqvAll]; rfl
  | c :: cs => by
    show PyData.eqvAll (f c :: cs.map f) [] = _
    rw [PyData.eqvAll]; rfl
def CL (H : Hp) (a : Addr) (cs : List I2) : Prop := ∃ xs, H a = some (.lst xs) ∧ CTs H xs cs
theorem CL.mono {H H' : Hp} (s : Same H H') {a : Addr} {hs : List I2} (p : CL H a hs) : CL H' a hs := by
  obtain ⟨xs, e, q⟩ := p
  exact ⟨xs, s _ _ e, q.mono (same_tp s)⟩
theorem CL.dp {H : Hp} {a : Addr} {cs : List I2} (p : CL H a cs) : Dp K H (.ref a) (.list (cs.map clD)) := by
  obtain ⟨xs, e, q⟩ := p
  exact .lst (SqL.of e) q.dp
theorem put_pos {st : List I2} {x : I2} (h : 0 < x.2) : put st x = absorb st x.2 (x.2 * x.1) := if_pos h
theorem put_neg {st : List I2} {x : I2} (h : ¬ 0 < x.2) : put st x = st := if_neg h
theorem absorb_meet {c : I2} {st : List I2} {n b : Int} (h : firstOf (n, b) ≤ lastOf c) : absorb (c :: st) n b = absorb st (n + c.1) (b + c.2) := by
  rw [absorb, if_pos h]
theorem absorb_apart {c : I2} {st : List I2} {n b : Int} (h : ¬ firstOf (n, b) ≤ lastOf c) : absorb (c :: st) n b = (n, b) :: c :: st := by
  rw [absorb, if_neg h]
def spClus : Sp := fun vs H Q _ => ∃ a hs, vs = [.ref a] ∧ PL H a hs ∧ HB hs ∧ ∀ H' p, Same H H' → H p = none → CL H' p (clus hs) → Q (.ref p) H'
theorem cal_clusters_of (T : Top K mg) : C8.Cal P w K mg base 2 "clusters_of" spClus [] := by
  have c_ends_of : C8.Cal P w K mg base 1 "ends_of" spEnds [] := cal_ends_of T
  refine T.d_clusters_of.cal sc_clusters_of (fun vs H Q E h => ?_) (fun f cdv A outer s H vs Q E hr h => ?_)
  · obtain ⟨a, hs, rfl, _⟩ := h
    rfl
  · obtain ⟨a, hs, rfl, ⟨xs, ha, px⟩, hb, q⟩ := h
    refine ⟨_, (pss_cons (ps_set (i := 1) sc_clusters_of.nd rfl (Or.inl rfl) (pe_lst pa_nil))
 (pss_cons (ps_for PassesOwn.never rfl (pi_list (pe_callB cr_sortedPO (by rfl) T.m_sorted (by decide +kernel) (pa_cons (pv 0) pa_nil))) (pg_tup rfl (pgs_cons (pg_name (i := 2) sc_clusters_of.nd rfl (Or.inl rfl)) (pgs_cons (pg_name (i := 3) sc_clusters_of.nd rfl (Or.inl rfl)) pgs_nil)))
 (pss_one (ps_if (pt_cmpR op_gt (pv 3) pe_int (nomark _))
 (pss_cons (ps_par (i := 4) (j := 5) (by rfl) sc_clusters_of.nd rfl rfl (by decide) rfl rfl (pa_cons (pv 3) (pa_cons (pe_op op_mulW (pv 3) (pv 2)) pa_nil)) (by rfl))
 (pss_cons (ps_asg (C8.pe_c c_ends_of hr (by decide) (by rfl) (pa_cons (pv 4) (pa_cons (pv 5) pa_nil))) (pg_tup rfl (pgs_cons (pg_name (i := 6) sc_clusters_of.nd rfl (Or.inl rfl)) (pgs_cons (pg_name (i := 7) sc_clusters_of.nd rfl (Or.inl rfl)) (pgs_cons (pg_name (i := 8) sc_clusters_of.nd rfl (Or.inl rfl)) pgs_nil)))))
 (pss_cons (ps_while PassesOwn.never (PW.pt (pw_and (pt_cmpR (op_neD hr.units) (pv 1) (pe_lst pa_nil) (nomark _)) (pw_and1 (pt_cmpR op_ge (pe_ix ix_tup (pe_ix ix_list (pv 1) (pe_un un_neg pe_int) (fun _ _ => rfl)) pe_int (fun _ _ => rfl)) (pv 6) (nomark _)))))
 (pss_cons (ps_aug (i := 4) sc_clusters_of.nd rfl (Or.inl rfl) (pe_ix ix_tup (pe_ix ix_list (pv 1) (pe_un un_neg pe_int) (fun _ _ => rfl)) pe_int (fun _ _ => rfl)) ip_add)
 (pss_cons (ps_aug (i := 5) sc_clusters_of.nd rfl (Or.inl rfl) (pe_ix ix_tup (pe_ix ix_list (pv 1) (pe_un un_neg pe_int) (fun _ _ => rfl)) pe_int (fun _ _ => rfl)) ip_add)
 (pss_cons (ps_expr (pe_bm0 PySem.F.plainAttrs_list PySem.F.slot_list_pop PySem.F.type_list_pop mt_pop (pv 1)))
 (pss_one (ps_asg (C8.pe_c c_ends_of hr (by decide) (by rfl) (pa_cons (pv 4) (pa_cons (pv 5) pa_nil))) (pg_tup rfl (pgs_cons (pg_name (i := 6) sc_clusters_of.nd rfl (Or.inl rfl)) (pgs_cons (pg_name (i := 7) sc_clusters_of.nd rfl (Or.inl rfl)) (pgs_cons (pg_name (i := 8) sc_clusters_of.nd rfl (Or.inl rfl)) pgs_nil))))))))))
 (pss_one (ps_expr (pe_bm PySem.F.plainAttrs_list PySem.F.slot_list_append PySem.F.type_list_append mt_append (pv 1) (pa_cons (pe_tup (pa_cons (pv 4) (pa_cons (pv 5) (pa_cons (pv 6) (pa_cons (pv 7) (pa_cons (pv 8) pa_nil)))))) pa_nil)))))))
 pss_nil)))
 (pss_one (ps_ret (pv 1))))), ?_⟩
    -- found = []
    refine ⟨Nat.zero_le _, fun o no => ?_⟩
    have s1 : Same H (upd H o (.lst [])) := same_new no
    -- sorted(heaps)
    have px1 := px.mono (same_tp s1)
    refine ⟨.ref a, rfl, a, xs, kOf (upd H o (.lst [])), rfl, SqL.of (s1 _ _ ha), fun x m => ?_, fun ys p h1 h2 np => ?_⟩
    · obtain ⟨h, _, r⟩ := pr_mem px1 m
      exact r.tup
    have py := sorted_is px1 h1 h2
    have s2 : Same (upd H o (.lst [])) (upd (upd H o (.lst [])) p (.lst ys)) := same_new np
    have npo : o ≠ p := ne_of_none upd_same np
    have hlen : ys.length ≤ 1000 := by
      rw [pr_len py, (srt_perm hs).length_eq]
      exact hb.len
    have hys : ys.length = (srt hs).length := pr_len py
    have nH : H p = none := s1.free np
    refine ⟨p, rfl, ⟨ys, SqL.of upd_same⟩, for_list (K := K) (a := p) (xs := ys) (fun i σ H3 => ∃ y2 y3 y4 y5 y6 y7 y8, σ = [some (.ref a), some (.ref o), y2, y3, y4, y5, y6, y7, y8] ∧ Same H H3 ∧ H3 p = some (.lst ys) ∧ PTs H3 ys (srt hs) ∧
        CL H3 o (((srt hs).take i).foldl put []).reverse) ⟨none, none, none, none, none, none, none, rfl, s1.trans s2, upd_same, py.mono (same_tp s2), ⟨[], by rw [upd_ne npo, upd_same], .nil⟩⟩ (fun i σ H3 _ hP => ?_) ?_ ?_⟩
    · obtain ⟨_, _, _, _, _, _, _, _, _, e, _⟩ := hP
      exact SqL.of e
    · rintro i v σ H3 hi ⟨y2, y3, y4, y5, y6, y7, y8, rfl, s3, ep, py3, zs, eo, cz⟩
      obtain ⟨h, hh, t, rfl, et⟩ := pr_get py3 hi
      have hil : i < (srt hs).length := (List.getElem?_eq_some_iff.mp hh).1
      have hm : h ∈ hs := (srt_perm hs).mem_iff.mp (List.mem_of_getElem? hh)
      have hst : (srt hs).take (i + 1) = (srt hs).take i ++ [h] := take_snoc hh
      have hB : PB i (((srt hs).take i).foldl put []) := by
        have := PB.nil.fold (l := (srt hs).take i) (fun y m => hb.w1 y ((srt_perm hs).mem_iff.mp (List.mem_of_mem_take m))) (fun y m => hb.w2 y ((srt_perm hs).mem_iff.mp (List.mem_of_mem_take m)))
        rw [List.length_take, Nat.zero_add, Nat.min_eq_left (by omega)] at this
        exact this
      rw [hst, List.foldl_append]
      show gTup K 2 _ _ _ _ _
      -- place, count = the pair
      refine ⟨t, _, rfl, SqT.of et, rfl, _, _, rfl, _, _, rfl, rfl, ?_⟩
      -- if count > 0
      refine ⟨_, rfl, _, _, rfl, rfl, _, rfl, ite2 (fun hc => ?_) (fun hc => ?_)⟩
      · have hc : 0 < h.2 := of_decide_eq_true hc
        have hW := hB.start hc (hb.w1 h hm) (hb.w2 h hm)
        have i1 : i + 1 ≤ 1001 := by omega
        -- many, balance = count, count * place
        refine ⟨_, rfl, _, rfl, _, rfl, _, _, rfl, rfl, (show Wd 200 h.2 from hb.w2 h hm).cmul (show Wd 200 h.1 from hb.w1 h hm), _, _, rfl, ?_⟩
        -- first, last, empty = ends_of(many, balance)
        refine ⟨_, rfl, _, rfl, h.2, h.2 * h.1, rfl, hc, hW.w1 i1, hW.w2 i1, fun H4 t4 s4 n4 e4 => ?_⟩
        refine ⟨t4, _, rfl, SqT.of e4, rfl, _, _, rfl, _, _, rfl, _, _, rfl, rfl, ?_⟩
        -- the while
        refine ⟨fun m σ' H' => ∃ st n b, m = st.length ∧ σ' = [some (.ref a), some (.ref o), some (.int h.1), some (.int h.2), some (.int n), some (.int b), some (.int (firstOf (n, b))), some (.int (lastOf (n, b))), some (optV (emptyOf (n, b)))] ∧
            Same H H' ∧ H' p = some (.lst ys) ∧ PTs H' ys (srt hs) ∧ CL H' o st.reverse ∧ PW (i + 1) st n b ∧ absorb st n b = absorb (((srt hs).take i).foldl put []) h.2 (h.2 * h.1),
          ⟨_, _, h.2, h.2 * h.1, rfl, rfl, s3.trans s4, s4 _ _ ep, py3.mono (same_tp s4), CL.mono s4 ⟨zs, eo, cz⟩, hW, rfl⟩, ?_⟩
        rintro m σ' H5 ⟨st, n, b, rfl, rfl, s5, ep5, py5, ⟨ws, eo5, cw⟩, hW5, hab⟩
        -- found != []
        refine ⟨_, rfl, Nat.zero_le _, fun l nl => ?_⟩
        have s6 : Same H5 (upd H5 l (.lst [])) := same_new nl
        have cw6 := cw.mono (same_tp s6)
        have eo6 := s6 _ _ eo5
        refine ⟨_, _, CL.dp ⟨ws, eo6, cw6⟩, .lst (SqL.of upd_same) .nil, shaped_map clD_lay _, shaped_nil, _, rfl, ?_⟩
        rw [eqv_nil]
        cases st with
        | nil =>
          refine iteF ?_
          refine iteF ?_
          -- found.append(..)
          have e0 : ws = [] := by cases cw; rfl
          subst e0
          refine ⟨_, rfl, .inl ⟨rfl, _, SqL.of eo6⟩, _, rfl, _, rfl, _, rfl, _, rfl, _, rfl, (by show 5 ≤ sizeLine; decide), fun c nc => ?_⟩
          have s7 : Same (upd H5 l (.lst [])) (upd (upd H5 l (.lst [])) c (.tup (clV (n, b)))) := same_new nc
          refine ⟨o, _, _, rfl, rfl, s7 _ _ eo6, by show 0 < sizeLine; decide, ?_⟩
          have npo' : p ≠ o := npo.symm
          refine ⟨_, _, _, _, _, _, _, rfl, same_mut ((s5.trans s6).trans s7) no, ?_, ?_, ?_⟩
          · rw [upd_ne npo']
            exact s7 _ _ (s6 _ _ ep5)
          · exact ((py5.mono (same_tp s6)).mono (same_tp s7)).mono (tp_mut (s7 _ _ eo6))
          · refine ⟨_, upd_same, ?_⟩
            have e : [h].foldl put (((srt hs).take i).foldl put []) = [(n, b)] := (put_pos hc).trans hab.symm
            rw [e]
            exact .cons (CT.mono (tp_mut (s7 _ _ eo6)) ⟨c, rfl, upd_same⟩) .nil
        | cons c st =>
          have c1 : (c :: st).reverse ≠ [] := by simp
          rw [decide_eq_false c1]
          refine iteT ?_
          rw [List.reverse_cons] at cw6 cw
          obtain ⟨ws', x, rfl, cw', t6, rfl, et6⟩ := pr_split cw6
          -- found[-1][3] >= first
          refine ⟨_, rfl, 1, rfl, o, _, -1, _, rfl, rfl, SqL.of eo6, atI_last _ _, t6, _, 3, _, rfl, rfl, SqT.of et6, atI_nat (j := 3) rfl, _, rfl, _, _, rfl, rfl, _, rfl, ite2 (fun hq => ?_) (fun hq => ?_)⟩
          · have hq : firstOf (n, b) ≤ lastOf c := of_decide_eq_true hq
            have hW7 := hW5.step
            refine ⟨fun σ' H' => ∃ st' n b, st'.length < st.length + 1 ∧ σ' = [some (.ref a), some (.ref o), some (.int h.1), some (.int h.2), some (.int n), some (.int b), some (.int (firstOf (n, b))), some (.int (lastOf (n, b))), some (optV (emptyOf (n, b)))] ∧
              Same H H' ∧ H' p = some (.lst ys) ∧ PTs H' ys (srt hs) ∧ CL H' o st'.reverse ∧ PW (i + 1) st' n b ∧ absorb st' n b = absorb (((srt hs).take i).foldl put []) h.2 (h.2 * h.1), fun σ' H' hN => ?_, ?_⟩
            · obtain ⟨st', n', b', hl, r⟩ := hN
              exact ⟨st'.length, hl, st', n', b', rfl, r⟩
            -- many += found[-1][0]; balance += found[-1][1]
            refine ⟨_, rfl, _, rfl, 1, rfl, o, _, -1, _, rfl, rfl, SqL.of eo6, atI_last _ _, t6, _, 0, _, rfl, rfl, SqT.of et6, atI_nat (j := 0) rfl, _, _, rfl, rfl, ?_⟩
            refine ⟨_, rfl, _, rfl, 1, rfl, o, _, -1, _, rfl, rfl, SqL.of eo6, atI_last _ _, t6, _, 1, _, rfl, rfl, SqT.of et6, atI_nat (j := 1) rfl, _, _, rfl, rfl, ?_⟩
            -- found.pop()
            refine ⟨_, rfl, .inl ⟨rfl, _, SqL.of eo6⟩, o, _, .ref t6, rfl, rfl, eo6, by simp, ?_⟩
            -- ends_of
            refine ⟨_, rfl, _, rfl, n + c.1, b + c.2, rfl, hW7.n0, hW7.w1 i1, hW7.w2 i1, fun H8 t8 s8 n8 e8 => ?_⟩
            refine ⟨t8, _, rfl, SqT.of e8, rfl, _, _, rfl, _, _, rfl, _, _, rfl, rfl, ?_⟩
            have npo' : p ≠ o := npo.symm
            refine ⟨st, n + c.1, b + c.2, by omega, rfl, (same_mut (s5.trans s6) no).trans s8, ?_, ?_, ⟨ws', ?_, ?_⟩, hW7, ?_⟩
            · refine s8 _ _ ?_
              rw [upd_ne npo']
              exact s6 _ _ ep5
            · exact ((py5.mono (same_tp s6)).mono (tp_mut eo6)).mono (same_tp s8)
            · refine s8 _ _ ?_
              rw [upd_same, List.dropLast_concat]
            · exact CTs.mono (same_tp s8) (CTs.mono (tp_mut eo6) cw')
            · exact (absorb_meet hq).symm.trans hab
          · have hq : ¬ firstOf (n, b) ≤ lastOf c := fun z => hq (decide_eq_true z)
            -- found.append(..)
            refine ⟨_, rfl, .inl ⟨rfl, _, SqL.of eo6⟩, _, rfl, _, rfl, _, rfl, _, rfl, _, rfl, (by show 5 ≤ sizeLine; decide), fun d nd => ?_⟩
            have s7 : Same (upd H5 l (.lst [])) (upd (upd H5 l (.lst [])) d (.tup (clV (n, b)))) := same_new nd
            have hz : (ws' ++ [V.ref t6]).length ≤ 1001 := by
              have hl := hW5.len
              rw [List.length_cons] at hl
              rw [List.length_append, pr_len cw', List.length_reverse, List.length_singleton]
              omega
            refine ⟨o, _, _, rfl, rfl, s7 _ _ eo6, Evl.sz_lt (by omega), ?_⟩
            have npo' : p ≠ o := npo.symm
            refine ⟨_, _, _, _, _, _, _, rfl, same_mut ((s5.trans s6).trans s7) no, ?_, ?_, ?_⟩
            · rw [upd_ne npo']
              exact s7 _ _ (s6 _ _ ep5)
            · exact ((py5.mono (same_tp s6)).mono (same_tp s7)).mono (tp_mut (s7 _ _ eo6))
            · refine ⟨_, upd_same, ?_⟩
              have e : [h].foldl put (((srt hs).take i).foldl put []) = (n, b) :: c :: st := (put_pos hc).trans (hab.symm.trans (absorb_apart hq))
              rw [e, List.reverse_cons, List.reverse_cons]
              exact pr_snoc (CTs.mono (tp_mut (s7 _ _ eo6)) (CTs.mono (same_tp s7) cw6)) (CT.mono (tp_mut (s7 _ _ eo6)) ⟨d, rfl, upd_same⟩)
      · have hc : ¬ 0 < h.2 := fun z => hc (decide_eq_true z)
        refine ⟨_, _, _, _, _, _, _, rfl, s3, ep, py3, ?_⟩
        have e : [h].foldl put (((srt hs).take i).foldl put []) = ((srt hs).take i).foldl put [] := put_neg hc
        rw [e]
        exact ⟨zs, eo, cz⟩
    · rintro σ H3 ⟨y2, y3, y4, y5, y6, y7, y8, rfl, s3, ep, py3, hC⟩
      refine ⟨_, rfl, q H3 o s3 no ?_⟩
      rw [hys, List.take_length] at hC
      exact hC
end
end Wk
/-! the walk, part C: stretches_of -/
namespace Wk
open PySem PySem.Spec PyProof.Rows L2 Spr
section
variable {P : Program} {w : World} {K : PySem.W.Frag} {mg : Str → Option Value} {base : Heap}
theorem joinp_len (acc : List I2) (p : I2) : (joinp acc p).length ≤ acc.length + 1 := by
  unfold joinp
  split
  · exact Nat.le_refl _
  · split
    · rw [List.length_cons, List.length_cons]; omega
    · exact Nat.le_refl _
theorem joins_len : ∀ (l acc : List I2), (l.foldl joinp acc).length ≤ acc.length + l.length
  | [], acc => Nat.le_refl _
  | p :: l, acc => by
    have h1 := joins_len l (joinp acc p)
    have h2 := joinp_len acc p
    rw [List.foldl_cons, List.length_cons]
    omega
theorem parts_len (c : I2) : (parts c).length ≤ 2 := by
  unfold parts
  split
  · exact Nat.le_succ 1
  · exact Nat.le_refl 2
theorem flat_len : ∀ l : List I2, (l.flatMap parts).length ≤ 2 * l.length
  | [] => Nat.le_refl _
  | c :: l => by
    have h1 := flat_len l
    have h2 := parts_len c
    rw [List.flatMap_cons, List.length_append, List.length_cons]
    omega
theorem HB.clus {hs : List I2} (h : HB hs) : PB hs.length (clusS (srt hs)) := by
  have := PB.nil.fold (l := srt hs) (fun y m => h.w1 y ((srt_perm hs).mem_iff.mp m)) (fun y m => h.w2 y ((srt_perm hs).mem_iff.mp m))
  rw [Nat.zero_add, (srt_perm hs).length_eq] at this
  exact this
theorem parts_none {c : I2} (e : emptyOf c = none) : parts c = [(firstOf c, lastOf c)] := by unfold parts; rw [e]
theorem parts_some {c : I2} {x : Int} (e : emptyOf c = some x) : parts c = [(firstOf c, x - 1), (x + 1, lastOf c)] := by unfold parts; rw [e]
def spStr : Sp := fun vs H Q _ => ∃ a hs, vs = [.ref a] ∧ PL H a hs ∧ HB hs ∧ ∀ H' p, Same H H' → H p = none → PL H' p (stretches hs) → Q (.ref p) H'
theorem cal_stretches_of (T : Top K mg) : C8.Cal P w K mg base 3 "stretches_of" spStr [] := by
  have c_clusters_of : C8.Cal P w K mg base 2 "clusters_of" spClus [] := cal_clusters_of T
  refine T.d_stretches_of.cal sc_stretches_of (fun vs H Q E h => ?_) (fun f cdv A outer s H vs Q E hr h => ?_)
  · obtain ⟨a, hs, rfl, _⟩ := h
    rfl
  · obtain ⟨a, hs, rfl, hp, hb, q⟩ := h
    refine ⟨_, (pss_cons (ps_set (i := 1) sc_stretches_of.nd rfl (Or.inl rfl) (pe_lst pa_nil))
 (pss_cons (ps_for PassesOwn.never rfl (pi_list (C8.pe_c c_clusters_of hr (by decide) (by rfl) (pa_cons (pv 0) pa_nil))) (pg_tup rfl (pgs_cons (pg_name (i := 2) sc_stretches_of.nd rfl (Or.inl rfl)) (pgs_cons (pg_name (i := 3) sc_stretches_of.nd rfl (Or.inl rfl)) (pgs_cons (pg_name (i := 4) sc_stretches_of.nd rfl (Or.inl rfl)) (pgs_cons (pg_name (i := 5) sc_stretches_of.nd rfl (Or.inl rfl)) (pgs_cons (pg_name (i := 6) sc_stretches_of.nd rfl (Or.inl rfl)) pgs_nil))))))
 (pss_cons (ps_set (i := 7) sc_stretches_of.nd rfl (Or.inl rfl) (pe_lst (pa_cons (pe_tup (pa_cons (pv 4) (pa_cons (pv 5) pa_nil))) pa_nil)))
 (C8.pss_cut (ps_if (pt_cmpR op_notN (pv 6) pe_non (nomark _))
 (pss_one (ps_set (i := 7) sc_stretches_of.nd rfl (Or.inl rfl) (pe_lst (pa_cons (pe_tup (pa_cons (pv 4) (pa_cons (pe_op op_sub (pv 6) pe_int) pa_nil))) (pa_cons (pe_tup (pa_cons (pe_op op_add (pv 6) pe_int) (pa_cons (pv 5) pa_nil))) pa_nil)))))
 pss_nil)
 (pss_one (ps_for PassesOwn.never rfl (pi_list (pv 7)) (pg_tup rfl (pgs_cons (pg_name (i := 8) sc_stretches_of.nd rfl (Or.inl rfl)) (pgs_cons (pg_name (i := 9) sc_stretches_of.nd rfl (Or.inl rfl)) pgs_nil)))
 (C8.pss_cut (ps_if (PW.pt (pw_and (pt_cmpR (op_neD hr.units) (pv 1) (pe_lst pa_nil) (nomark _)) (pw_and1 (pt_cmpR op_eq (pe_op op_add (pe_ix ix_tup (pe_ix ix_list (pv 1) (pe_un un_neg pe_int) (fun _ _ => rfl)) pe_int (fun _ _ => rfl)) pe_int) (pv 8) (nomark _)))))
 (pss_one (ps_set (i := 8) sc_stretches_of.nd rfl (Or.inl rfl) (pe_ix ix_tup (pe_bm0 PySem.F.plainAttrs_list PySem.F.slot_list_pop PySem.F.type_list_pop mt_pop (pv 1)) pe_int (fun _ _ => rfl))))
 pss_nil)
 (pss_one (ps_expr (pe_bm PySem.F.plainAttrs_list PySem.F.slot_list_append PySem.F.type_list_append mt_append (pv 1) (pa_cons (pe_tup (pa_cons (pv 8) (pa_cons (pv 9) pa_nil))) pa_nil))))))))))
 (pss_one (ps_ret (pv 1))))), ?_⟩
    -- found = []
    refine ⟨Nat.zero_le _, fun o no => ?_⟩
    have s1 : Same H (upd H o (.lst [])) := same_new no
    have hcl : (clus hs).length ≤ 1000 := by
      have h1 := hb.clus.len
      have h2 := hb.len
      unfold clus
      rw [List.length_reverse]
      omega
    -- clusters_of(heaps)
    refine ⟨.ref a, rfl, a, hs, rfl, hp.mono s1, hb, fun H2 r s2 nr hC => ?_⟩
    obtain ⟨rs, er, cr⟩ := hC
    have nro : o ≠ r := ne_of_none upd_same nr
    have eo2 : H2 o = some (.lst []) := s2 _ _ upd_same
    refine ⟨r, rfl, ⟨rs, SqL.of er⟩, for_list (K := K) (a := r) (xs := rs) (fun i σ H3 => ∃ y2 y3 y4 y5 y6 y7 y8 y9, σ = [some (.ref a), some (.ref o), y2, y3, y4, y5, y6, y7, y8, y9] ∧ Same H H3 ∧ H3 r = some (.lst rs) ∧ CTs H3 rs (clus hs) ∧
        PL H3 o (((((clus hs).take i).flatMap parts).foldl joinp []).reverse)) ⟨none, none, none, none, none, none, none, none, rfl, s1.trans s2, er, cr, ⟨[], eo2, .nil⟩⟩ (fun i σ H3 _ hP => ?_) ?_ ?_⟩
    · obtain ⟨_, _, _, _, _, _, _, _, _, _, e, _⟩ := hP
      exact SqL.of e
    · rintro i v σ H3 hi ⟨y2, y3, y4, y5, y6, y7, y8, y9, rfl, s3, er3, cr3, hF⟩
      obtain ⟨c, hc, t, rfl, et⟩ := pr_get cr3 hi
      have hil : i < (clus hs).length := (List.getElem?_eq_some_iff.mp hc).1
      have hst : (clus hs).take (i + 1) = (clus hs).take i ++ [c] := take_snoc hc
      have hlen := joins_len (((clus hs).take i).flatMap parts) []
      have hlen2 := flat_len ((clus hs).take i)
      rw [List.length_take] at hlen2
      rw [List.length_nil] at hlen
      rw [hst, List.flatMap_append, List.foldl_append]
      show gTup K 5 _ _ _ _ _
      have e1 : [c].flatMap parts = parts c := by
        rw [List.flatMap_cons, List.flatMap_nil, List.append_nil]
      rw [e1]
      generalize (((clus hs).take i).flatMap parts).foldl joinp [] = acc at hF hlen ⊢
      -- many, balance, first, last, empty = the cluster
      refine ⟨t, _, rfl, SqT.of et, rfl, _, _, rfl, _, _, rfl, _, _, rfl, _, _, rfl, _, _, rfl, rfl, ?_⟩
      -- parts = [(first, last)]
      refine ⟨_, rfl, _, rfl, (by show 2 ≤ sizeLine; decide), fun u1 nu1 => ⟨(by show 1 ≤ sizeLine; decide), fun l nl => ?_⟩⟩
      have s4 : Same H3 (upd H3 u1 (.tup [.int (firstOf c), .int (lastOf c)])) := same_new nu1
      have s5 : Same (upd H3 u1 (.tup [.int (firstOf c), .int (lastOf c)])) (upd (upd H3 u1 (.tup [.int (firstOf c), .int (lastOf c)])) l (.lst [.ref u1])) := same_new nl
      have s35 := s4.trans s5
      -- if empty is not None
      refine ⟨fun σ' H' => ∃ l zs, σ' = [some (.ref a), some (.ref o), some (.int c.1), some (.int c.2), some (.int (firstOf c)), some (.int (lastOf c)), some (optV (emptyOf c)), some (.ref l), y8, y9] ∧
          Same H3 H' ∧ H3 l = none ∧ H' l = some (.lst zs) ∧ PTs H' zs (parts c), ⟨_, rfl, rfl, _, rfl, ite2 (fun he => ?_) (fun he => ?_)⟩, ?_⟩
      · cases ee : emptyOf c with
        | none =>
          rw [ee] at he
          exact absurd he (by decide)
        | some x =>
          refine ⟨_, rfl, _, rfl, _, _, rfl, rfl, (by show 2 ≤ sizeLine; decide), fun u2 nu2 => ⟨_, rfl, _, _, rfl, rfl, _, rfl, (by show 2 ≤ sizeLine; decide), fun u3 nu3 => ⟨(by show 2 ≤ sizeLine; decide), fun l2 nl2 => ?_⟩⟩⟩
          have s6 := s35.trans (same_new (o := .tup [.int (firstOf c), .int (x - 1)]) nu2)
          have s7 := same_new (o := .tup [.int (x + 1), .int (lastOf c)]) nu3
          have s8 := same_new (o := .lst [.ref u2, .ref u3]) nl2
          refine ⟨l2, _, ?_, (s6.trans s7).trans s8, (s6.trans s7).free nl2, upd_same, ?_⟩
          · rfl
          · rw [parts_some ee]
            exact .cons ⟨u2, rfl, s8 _ _ (s7 _ _ upd_same)⟩ (.cons ⟨u3, rfl, s8 _ _ upd_same⟩ .nil)
      · cases ee : emptyOf c with
        | none =>
          refine ⟨l, _, rfl, s35, s4.free nl, upd_same, ?_⟩
          rw [parts_none ee]
          exact .cons ⟨u1, rfl, s5 _ _ upd_same⟩ .nil
        | some x =>
          rw [ee] at he
          exact absurd (show (!decide (V.int x = V.non)) = true by rw [decide_eq_false (fun z => nomatch z)]; rfl) he
      · rintro σ' H4 ⟨l, zs, rfl, s6, nl, el, pz⟩
        obtain ⟨fs, eo3, pf⟩ := hF
        have nlo : l ≠ o := (ne_of_none eo3 nl).symm
        have nlr : l ≠ r := (ne_of_none er3 nl).symm
        have hz : zs.length = (parts c).length := pr_len pz
        have hpl := parts_len c
        -- for begin, end in parts
        refine ⟨_, rfl, l, rfl, ⟨_, SqL.of el⟩, for_list (K := K) (a := l) (xs := zs) (fun j σ H5 => ∃ y8 y9, σ = [some (.ref a), some (.ref o), some (.int c.1), some (.int c.2), some (.int (firstOf c)), some (.int (lastOf c)), some (optV (emptyOf c)), some (.ref l), y8, y9] ∧
            Same H H5 ∧ H5 r = some (.lst rs) ∧ CTs H5 rs (clus hs) ∧ H5 l = some (.lst zs) ∧ PTs H5 zs (parts c) ∧ PL H5 o (((parts c).take j).foldl joinp acc).reverse)
          ⟨y8, y9, rfl, s3.trans s6, s6 _ _ er3, CTs.mono (same_tp s6) cr3, el, pz, fs, s6 _ _ eo3, PTs.mono (same_tp s6) pf⟩ (fun j σ H5 _ hP => ?_) ?_ ?_⟩
        · obtain ⟨_, _, _, _, _, _, e, _⟩ := hP
          exact SqL.of e
        · rintro j v σ H5 hj ⟨y8, y9, rfl, s7, er5, cr5, el5, pz5, hF5⟩
          obtain ⟨pq, hpq, t5, rfl, et5⟩ := pr_get pz5 hj
          have hjl : j < (parts c).length := (List.getElem?_eq_some_iff.mp hpq).1
          have hlen3 := joins_len ((parts c).take j) acc
          rw [List.length_take] at hlen3
          rw [take_snoc hpq, List.foldl_append]
          show gTup K 2 _ _ _ _ _
          generalize ((parts c).take j).foldl joinp acc = acc2 at hF5 hlen3 ⊢
          -- begin, end = the part
          refine ⟨t5, _, rfl, SqT.of et5, rfl, _, _, rfl, _, _, rfl, rfl, ?_⟩
          -- if found != [] and found[-1][1] + 1 == begin
          obtain ⟨gs, eo5, pg⟩ := hF5
          refine ⟨fun σ' H' => ∃ b acc', σ' = [some (.ref a), some (.ref o), some (.int c.1), some (.int c.2), some (.int (firstOf c)), some (.int (lastOf c)), some (optV (emptyOf c)), some (.ref l), some (.int b), some (.int pq.2)] ∧
            Same H H' ∧ H' r = some (.lst rs) ∧ CTs H' rs (clus hs) ∧ H' l = some (.lst zs) ∧ PTs H' zs (parts c) ∧ PL H' o acc'.reverse ∧ joinp acc2 pq = (b, pq.2) :: acc' ∧ acc'.length ≤ acc2.length, ?_, ?_⟩
          · refine ⟨_, rfl, Nat.zero_le _, fun k nk => ?_⟩
            have s8 : Same H5 (upd H5 k (.lst [])) := same_new nk
            have pg8 := PTs.mono (same_tp s8) pg
            have eo8 := s8 _ _ eo5
            refine ⟨_, _, PL.dp ⟨gs, eo8, pg8⟩, .lst (SqL.of upd_same) .nil, shaped_map pairD_lay _, shaped_nil, _, rfl, ?_⟩
            rw [eqv_nil]
            cases acc2 with
            | nil =>
              refine iteF ?_
              refine iteF ?_
              exact ⟨pq.1, [], rfl, s7.trans s8, s8 _ _ er5, CTs.mono (same_tp s8) cr5, s8 _ _ el5, PTs.mono (same_tp s8) pz5, ⟨gs, eo8, pg8⟩, rfl, Nat.le_refl _⟩
            | cons g acc2 =>
              have c1 : (g :: acc2).reverse ≠ [] := by simp
              rw [decide_eq_false c1]
              refine iteT ?_
              rw [List.reverse_cons] at pg8
              obtain ⟨gs', x, rfl, pg', t6, rfl, et6⟩ := pr_split pg8
              refine ⟨_, rfl, 1, rfl, o, _, -1, _, rfl, rfl, SqL.of eo8, atI_last _ _, t6, _, 1, _, rfl, rfl, SqT.of et6, atI_nat (j := 1) rfl, _, _, rfl, rfl, _, rfl, rfl, _, rfl, ite2 (fun hq => ?_) (fun hq => ?_)⟩
              · have hq : g.2 + 1 = pq.1 := V.int.inj (of_decide_eq_true hq)
                -- begin = found.pop()[0]
                refine ⟨_, rfl, .inl ⟨rfl, _, SqL.of eo8⟩, o, _, .ref t6, rfl, rfl, eo8, by simp, ?_⟩
                have tp9 := tp_mut (o := .lst ((gs' ++ [V.ref t6]).dropLast)) eo8
                refine ⟨t6, _, 0, _, rfl, rfl, SqT.of (tp9 _ _ et6), atI_nat (j := 0) rfl, ?_⟩
                have nro' : r ≠ o := nro.symm
                refine ⟨g.1, acc2, rfl, same_mut (s7.trans s8) no, ?_, CTs.mono tp9 (CTs.mono (same_tp s8) cr5), ?_, PTs.mono tp9 (PTs.mono (same_tp s8) pz5), ⟨gs', ?_, PTs.mono tp9 pg'⟩, if_pos hq, Nat.le_succ _⟩
                · rw [upd_ne nro']
                  exact s8 _ _ er5
                · rw [upd_ne nlo]
                  exact s8 _ _ el5
                · rw [upd_same, List.dropLast_concat]
              · have hq : ¬ g.2 + 1 = pq.1 := fun z => hq (decide_eq_true (congrArg V.int z))
                refine ⟨pq.1, g :: acc2, rfl, s7.trans s8, s8 _ _ er5, CTs.mono (same_tp s8) cr5, s8 _ _ el5, PTs.mono (same_tp s8) pz5, ⟨_, eo8, ?_⟩, if_neg hq, Nat.le_refl _⟩
                rw [List.reverse_cons]
                exact pg8
          · -- found.append((begin, end))
            rintro σ' H6 ⟨b, acc', rfl, s8, er6, cr6, el6, pz6, ⟨gs6, eo6, pg6⟩, hj, hl'⟩
            refine ⟨_, rfl, .inl ⟨rfl, _, SqL.of eo6⟩, _, rfl, _, rfl, (by show 2 ≤ sizeLine; decide), fun u nu => ?_⟩
            have s9 : Same H6 (upd H6 u (.tup [.int b, .int pq.2])) := same_new nu
            have eo9 := s9 _ _ eo6
            refine ⟨o, _, _, rfl, rfl, eo9, Evl.sz_lt ?_, ?_⟩
            · rw [pr_len pg6, List.length_reverse]
              omega
            have tp9 := tp_mut (o := .lst (gs6 ++ [V.ref u])) eo9
            have nro' : r ≠ o := nro.symm
            refine ⟨_, _, rfl, same_mut (s8.trans s9) no, ?_, CTs.mono tp9 (CTs.mono (same_tp s9) cr6), ?_, PTs.mono tp9 (PTs.mono (same_tp s9) pz6), ⟨_, upd_same, ?_⟩⟩
            · rw [upd_ne nro']
              exact s9 _ _ er6
            · rw [upd_ne nlo]
              exact s9 _ _ el6
            · show PTs _ _ (joinp acc2 pq).reverse
              rw [hj, List.reverse_cons]
              exact pr_snoc (PTs.mono tp9 (PTs.mono (same_tp s9) pg6)) ⟨u, rfl, tp9 _ _ upd_same⟩
        · rintro σ H5 ⟨y8, y9, rfl, s7, er5, cr5, el5, pz5, hF5⟩
          rw [hz, List.take_length] at hF5
          exact ⟨_, _, _, _, _, _, _, _, rfl, s7, er5, cr5, hF5⟩
    · rintro σ H3 ⟨y2, y3, y4, y5, y6, y7, y8, y9, rfl, s3, er3, cr3, hF⟩
      refine ⟨_, rfl, q H3 o s3 no ?_⟩
      rw [pr_len cr3, List.take_length] at hF
      exact hF
end
end Wk
/-! the walk, part D: the law's own cells, draws, heaps -/
namespace Wk
open PySem PySem.Spec PyProof.Rows L2 Spr
section
variable {P : Program} {w : World} {K : PySem.W.Frag} {mg : Str → Option Value} {base : Heap}
/-- a cell of the list: some number -/
def spCell (K : PySem.W.Frag) : Sp := fun vs H Q _ => ∃ (a : Addr) (ns : List Int) (k : Int), vs = [.ref a, .int k] ∧ SqL K H a (ns.map V.int) ∧ 0 ≤ k ∧ ∀ i : Int, Q (.int i) H
theorem ints_at {ns : List Int} {k : Int} (h0 : 0 ≤ k) (h : k < (ns.length : Int)) : ∃ z, ns[k.toNat]? = some z ∧ atI (ns.map V.int) k = some (.int z) := by
  have h1 : k.toNat < ns.length := by omega
  refine ⟨ns[k.toNat], List.getElem?_eq_getElem h1, ?_⟩
  refine at_of (j := k.toNat) (by omega) ?_
  rw [List.getElem?_map, List.getElem?_eq_getElem h1]
  rfl
theorem cal_cell_at (T : Top K mg) : C8.Cal P w K mg base 1 "_law_cell_at" (spCell K) [] := by
  refine T.d__law_cell_at.cal sc__law_cell_at (fun vs H Q E h => ?_) (fun f cdv A outer s H vs Q E hr h => ?_)
  · obtain ⟨a, ns, k, rfl, _⟩ := h
    rfl
  · obtain ⟨a, ns, k, rfl, hS, h0, q⟩ := h
    refine ⟨_, (pss_cons (ps_if (pt_cmpR op_lt (pv 1) (pe_callB call_len_seq (by rfl) T.m_len (by decide +kernel) (pa_cons (pv 0) pa_nil)) (nomark _))
 (pss_one (ps_ret (pe_ix ix_list (pv 0) (pv 1) (fun _ _ => rfl))))
 pss_nil)
 (pss_one (ps_ret pe_int))), ?_⟩
    refine ⟨_, rfl, _, rfl, a, _, rfl, .inl hS, _, _, rfl, rfl, _, rfl, ite2 (fun e => ?_) (fun e => ?_)⟩
    · have e1 : k < ((ns.map V.int).length : Int) := of_decide_eq_true e
      rw [List.length_map] at e1
      obtain ⟨z, _, hz⟩ := ints_at h0 e1
      exact ⟨_, rfl, _, rfl, a, _, k, _, rfl, rfl, hS, hz, q z⟩
    · exact q 0
/-- a draw: some number from 0 to below many -/
def spDraw : Sp := fun vs H Q _ => ∃ cell k many : Int, vs = [.int cell, .int k, .int many] ∧ 0 ≤ k ∧ 0 < many ∧ ∀ (r : Int) H', 0 ≤ r → r < many → Same H H' → Q (.int r) H'
def primesL : List Int := [1000003, 1000033, 1000037, 1000039, 1000081, 1000099, 1000117, 1000121, 1000133, 1000151, 1000159, 1000171, 1000183, 1000187, 1000193, 1000199]
theorem primes_pos : ∀ i : Nat, i < 16 → ∃ z : Int, primesL[i]? = some z ∧ 0 < z := by
  intro i hi
  have h : ∀ i : Nat, i < 16 → (primesL[i]?.getD 0 > 0 ∧ (primesL[i]?).isSome) := by decide +kernel
  obtain ⟨h1, h2⟩ := h i hi
  cases e : primesL[i]? with
  | none => rw [e] at h2; cases h2
  | some z => rw [e] at h1; exact ⟨z, rfl, h1⟩
theorem cal_draw (T : Top K mg) : C8.Cal P w K mg base 1 "_law_draw" spDraw [] := by
  refine T.d__law_draw.cal sc__law_draw (fun vs H Q E h => ?_) (fun f cdv A outer s H vs Q E hr h => ?_)
  · obtain ⟨a, ns, k, rfl, _⟩ := h
    rfl
  · obtain ⟨cell, k, many, rfl, h0, hm, q⟩ := h
    refine ⟨_, (pss_cons (ps_set (i := 3) sc__law_draw.nd rfl (Or.inl rfl) (pe_tup (pa_cons pe_int (pa_cons pe_int (pa_cons pe_int (pa_cons pe_int (pa_cons pe_int (pa_cons pe_int (pa_cons pe_int (pa_cons pe_int (pa_cons pe_int (pa_cons pe_int (pa_cons pe_int (pa_cons pe_int (pa_cons pe_int (pa_cons pe_int (pa_cons pe_int (pa_cons pe_int pa_nil))))))))))))))))))
 (pss_one (ps_ret (pe_op op_mod (pe_op op_mod (pe_op op_add (pe_op op_mul (pv 0) pe_int) (pe_op op_mul (pv 1) pe_int)) (pe_ix ix_tup (pv 3) (pe_op op_mod (pv 1) pe_int) (fun _ _ => rfl))) (pv 2))))), ?_⟩
    refine ⟨(by show 16 ≤ sizeLine; decide), fun t nt => ?_⟩
    have hk : 0 ≤ k % 16 ∧ k % 16 < 16 := by omega
    obtain ⟨z, hz, hz0⟩ := primes_pos (k % 16).toNat (by omega)
    have ha : atI (primesL.map V.int) (k % 16) = some (.int z) := by
      refine at_of (j := (k % 16).toNat) (by omega) ?_
      rw [List.getElem?_map, hz]
      rfl
    refine ⟨_, rfl, _, _, rfl, rfl, .inr (by decide), _, rfl, _, _, rfl, rfl, .inr (by decide), _, _, rfl, rfl, _, rfl, _, rfl, _, _, rfl, rfl, (show (0 : Int) < 16 by decide), t, primesL.map V.int, _, _, rfl, rfl, SqT.of upd_same, ha, _, _, rfl, rfl, hz0, _, rfl, _, _, rfl, rfl, hm, ?_⟩
    exact q _ _ (Int.emod_nonneg _ (by omega)) (Int.emod_lt_of_pos _ hm) (same_new nt)
end
end Wk
/-! the walk, part P: readings that evaluate to pairs, to lists of pairs -/
namespace Wk
open PySem PySem.Spec PyProof.Rows L2 Spr
theorem eqv_pairs : ∀ l m : List I2, PyData.eqv (.list (l.map pairD)) (.list (m.map pairD)) = decide (l = m)
  | [], [] => by
    show PyData.eqvAll [] [] = _
    rw [PyData.eqvAll]; rfl
  | [], b :: m => by
    show PyData.eqvAll [] (pairD b :: m.map pairD) = _
    rw [PyData.eqvAll]; rfl
  | a :: l, [] => by
    show PyData.eqvAll (pairD a :: l.map pairD) [] = _
    rw [PyData.eqvAll]; rfl
  | a :: l, b :: m => by
    have ih := eqv_pairs l m
    have ih2 : PyData.eqvAll (l.map pairD) (m.map pairD) = decide (l = m) := ih
    have e1 : PyData.eqv (pairD a) (pairD b) = decide (a = b) := by
      show PyData.eqvAll [.int a.1, .int a.2] [.int b.1, .int b.2] = _
      rw [PyData.eqvAll, PyData.eqvAll, PyData.eqvAll]
      show ((a.1 == b.1) && ((a.2 == b.2) && true)) = _
      obtain ⟨a1, a2⟩ := a
      obtain ⟨b1, b2⟩ := b
      by_cases h1 : a1 = b1 <;> by_cases h2 : a2 = b2 <;> simp [h1, h2]
    show PyData.eqvAll (pairD a :: l.map pairD) (pairD b :: m.map pairD) = _
    rw [PyData.eqvAll, e1, ih2]
    by_cases h1 : a = b <;> by_cases h2 : l = m <;> simp [h1, h2]
theorem HB.all {hs : List I2} (h : HB hs) : (hs.map pairD).all isHeapD = true := by
  rw [List.all_map, List.all_eq_true]
  intro x m
  exact decide_eq_true (h.pos x m)
section
variable {K : PySem.W.Frag} {σ : L2.St} {H : Hp} {te ta tb : TE} {ti : TE} {tr : TA}
/-- a pair of ints -/
def EvP (te : TE) (σ : L2.St) (H : Hp) (x : I2) : Prop := ∀ H1, Same H H1 → ∀ Q : VK, (∀ v H2, Same H1 H2 → PT H2 v x → Q v H2) → te σ H1 Q
/-- pairs of ints, one by one -/
def EvPs (tr : TA) (σ : L2.St) (H : Hp) (m : List I2) : Prop := ∀ H1, Same H H1 → ∀ Q : List V → Hp → Prop, (∀ vs H2, Same H1 H2 → PTs H2 vs m → Q vs H2) → tr σ H1 Q
/-- a list of pairs; a new one -/
def EvQ (te : TE) (σ : L2.St) (H : Hp) (m : List I2) : Prop := ∀ H1, Same H H1 → ∀ Q : VK, (∀ p H2, Same H1 H2 → PL H2 p m → Q (.ref p) H2) → te σ H1 Q
def EvN (te : TE) (σ : L2.St) (H : Hp) (m : List I2) : Prop := ∀ H1, Same H H1 → ∀ Q : VK, (∀ p H2, H1 p = none → Same H1 H2 → PL H2 p m → Q (.ref p) H2) → te σ H1 Q
theorem EvN.q {m : List I2} (h : EvN te σ H m) : EvQ te σ H m := fun H1 s Q k => h H1 s Q fun p H2 _ s2 hp => k p H2 s2 hp
theorem evp_var {i : Nat} {v : V} {x : I2} (h : σ[i]? = some (some v)) (p : PT H v x) : EvP (tVar i) σ H x := fun H1 s Q k => ⟨v, h, k v H1 (Same.refl H1) (p.mono (same_tp s))⟩
theorem evp_tup {a b : Int} (h1 : Evl.Ev ta σ H (.int a)) (h2 : Evl.Ev tb σ H (.int b)) : EvP (tTup (tCons ta (tCons tb tNil))) σ H (a, b) := fun H1 s Q k =>
  h1 H1 s _ fun H2 s2 => h2 H2 (Same.trans s s2) _ fun H3 s3 => ⟨(by show 2 ≤ sizeLine; decide), fun t nt => k _ _ (Same.trans (Same.trans s2 s3) (same_new nt)) ⟨t, rfl, upd_same⟩⟩
theorem evps_nil : EvPs tNil σ H [] := fun H1 s Q k => k [] H1 (Same.refl H1) .nil
theorem evps_cons {x : I2} {m : List I2} (h1 : EvP te σ H x) (h2 : EvPs tr σ H m) : EvPs (tCons te tr) σ H (x :: m) := fun H1 s Q k =>
  h1 H1 s _ fun v H2 s2 p => h2 H2 (Same.trans s s2) _ fun vs H3 s3 ps => k _ H3 (Same.trans s2 s3) (.cons (p.mono (same_tp s3)) ps)
theorem evn_disp {m : List I2} (h : EvPs tr σ H m) (hl : m.length ≤ 1000) : EvN (tLst tr) σ H m := fun H1 s Q k =>
  h H1 s _ fun vs H2 s2 ps => ⟨by rw [pr_len ps]; exact Evl.sz_of (by omega), fun p np => k p _ (Same.free s2 np) (Same.trans s2 (same_new np)) ⟨vs, upd_same, ps.mono (tp_new np)⟩⟩
theorem evq_var {i : Nat} {a : Addr} {m : List I2} (h : σ[i]? = some (some (.ref a))) (p : PL H a m) : EvQ (tVar i) σ H m := fun H1 s Q k => ⟨.ref a, h, k a H1 (Same.refl H1) (p.mono s)⟩
def cutI (m : List I2) (lo hi : Option Int) : List I2 := (m.drop (HT.sIx m.length 0 lo)).take (HT.sIx m.length m.length hi - HT.sIx m.length 0 lo)
theorem PTs.cut {xs : List V} {m : List I2} (p : PTs H xs m) (lo hi : Option Int) : PTs H (cutV xs lo hi) (cutI m lo hi) := by
  unfold cutV cutI
  rw [pr_len p]
  exact pr_take _ (pr_drop _ p)
theorem cutI_len (m : List I2) (lo hi : Option Int) : (cutI m lo hi).length ≤ m.length := by
  unfold cutI
  rw [List.length_take, List.length_drop]
  omega
theorem cutI_mem {m : List I2} {lo hi : Option Int} {x : I2} (h : x ∈ cutI m lo hi) : x ∈ m := List.mem_of_mem_drop (List.mem_of_mem_take h)
theorem evn_sl {tl th : TO} {m : List I2} {lo hi : Option Int} (h : EvQ te σ H m) (h1 : Evl.EvO tl σ H lo) (h2 : Evl.EvO th σ H hi) : EvN (tSl (rSlL K) te tl th) σ H (cutI m lo hi) := fun H1 s Q k =>
  h H1 s _ fun a H2 s2 hp => h1 H2 (Same.trans s s2) _ fun H3 s3 => h2 H3 (Same.trans (Same.trans s s2) s3) _ fun H4 s4 => by
    obtain ⟨xs, e, ps⟩ := hp.mono (Same.trans s3 s4)
    have s14 : Same H1 H4 := Same.trans (Same.trans s2 s3) s4
    exact ⟨a, xs, rfl, SqL.of e, fun p np => k p _ (Same.free s14 np) (Same.trans s14 (same_new np)) ⟨_, upd_same, (ps.cut lo hi).mono (tp_new np)⟩⟩
theorem evn_cat {a b : List I2} (h1 : EvQ ta σ H a) (h2 : EvQ tb σ H b) (hl : a.length + b.length ≤ 100000) : EvN (tOp rCat ta tb) σ H (a ++ b) := fun H1 s Q k =>
  h1 H1 s _ fun p1 H2 s2 hp1 => h2 H2 (Same.trans s s2) _ fun p2 H3 s3 hp2 => by
    obtain ⟨xs, e1, ps⟩ := hp1.mono s3
    obtain ⟨ys, e2, qs⟩ := hp2
    have s13 : Same H1 H3 := Same.trans s2 s3
    exact ⟨p1, p2, xs, ys, rfl, rfl, e1, e2, Evl.sz_of (by rw [pr_len ps, pr_len qs]; exact hl), fun p np => k p _ (Same.free s13 np) (Same.trans s13 (same_new np)) ⟨_, upd_same, PTs.mono (tp_new np) (pr_app ps qs)⟩⟩
theorem evn_rev {m : List I2} (h : EvQ te σ H m) : EvN (tRevL K te) σ H m.reverse := fun H1 s Q k =>
  h H1 s _ fun a H2 s2 hp => by
    obtain ⟨xs, e, ps⟩ := hp
    exact ⟨a, xs, rfl, SqL.of e, fun p np => k p _ (Same.free s2 np) (Same.trans s2 (same_new np)) ⟨_, upd_same, PTs.mono (tp_new np) (pr_rev ps)⟩⟩
theorem evn_list {m : List I2} (h : EvQ te σ H m) : EvN (tCB (fun xs H Q => ∃ p ys, xs = [.ref p] ∧ (SqL K H p ys ∨ SqT K H p ys) ∧ ∀ l, H l = none → Q (.ref l) (upd H l (.lst ys))) (tCons te tNil)) σ H m := fun H1 s Q k =>
  h H1 s _ fun a H2 s2 hp => by
    obtain ⟨xs, e, ps⟩ := hp
    exact ⟨a, xs, rfl, .inl (SqL.of e), fun p np => k p _ (Same.free s2 np) (Same.trans s2 (same_new np)) ⟨_, upd_same, ps.mono (tp_new np)⟩⟩
theorem ev_lenQ {m : List I2} (h : EvQ te σ H m) : Evl.Ev (tCB (fun xs H Q => ∃ p ys, xs = [.ref p] ∧ (SqL K H p ys ∨ SqT K H p ys) ∧ Q (.int ys.length) H) (tCons te tNil)) σ H (.int (m.length : Int)) := fun H1 s Q k =>
  h H1 s _ fun a H2 s2 hp => by
    obtain ⟨xs, e, ps⟩ := hp
    refine ⟨a, xs, rfl, .inl (SqL.of e), ?_⟩
    rw [pr_len ps]
    exact k H2 s2
theorem ev_eqQ {a b : List I2} (h1 : EvQ ta σ H a) (h2 : EvQ tb σ H b) : Evl.Ev (tOp (rEqD K) ta tb) σ H (.bl (decide (a = b))) := fun H1 s Q k =>
  h1 H1 s _ fun p1 H2 s2 hp1 => h2 H2 (Same.trans s s2) _ fun p2 H3 s3 hp2 =>
    ⟨_, _, PL.dp (hp1.mono s3), PL.dp hp2, shaped_map pairD_lay _, shaped_map pairD_lay _, by rw [eqv_pairs]; exact k H3 (Same.trans s2 s3)⟩
theorem ev_neQ {a b : List I2} (h1 : EvQ ta σ H a) (h2 : EvQ tb σ H b) : Evl.Ev (tOp (rNeD K) ta tb) σ H (.bl (!decide (a = b))) := fun H1 s Q k =>
  h1 H1 s _ fun p1 H2 s2 hp1 => h2 H2 (Same.trans s s2) _ fun p2 H3 s3 hp2 =>
    ⟨_, _, PL.dp (hp1.mono s3), PL.dp hp2, shaped_map pairD_lay _, shaped_map pairD_lay _, by rw [eqv_pairs]; exact k H3 (Same.trans s2 s3)⟩
theorem evp_ix {m : List I2} {i : Int} {x : I2} (h1 : EvQ ta σ H m) (h2 : Evl.Ev tb σ H (.int i)) (hx : atI m i = some x) : EvP (tOp (rIxL K) ta tb) σ H x := fun H1 s Q k =>
  h1 H1 s _ fun p1 H2 s2 hp1 => h2 H2 (Same.trans s s2) _ fun H3 s3 => by
    obtain ⟨xs, e, ps⟩ := hp1.mono s3
    obtain ⟨j, h3, h4, _⟩ := atI_get hx
    obtain ⟨v, hv, pv⟩ := pr_get2 ps h4
    refine ⟨p1, xs, i, v, rfl, rfl, SqL.of e, ?_, k v H3 (Same.trans s2 s3) pv⟩
    unfold atI at hx ⊢
    rw [pr_len ps]
    cases e2 : ixN m.length i with
    | none => rw [e2] at hx; cases hx
    | some j2 =>
      rw [e2] at hx
      have h5 : m[j2]? = some x := hx
      obtain ⟨v2, hv2, _⟩ := pr_get2 ps h5
      have : j2 = j := by
        have := (ixN_seq e2).1
        rw [h3] at this
        exact (Option.some.inj this).symm
      subst this
      exact hv
theorem ev_fst {x : I2} (h : EvP te σ H x) : Evl.Ev (tOp (rIxT K) te (tC (.int 0))) σ H (.int x.1) := fun H1 s Q k =>
  h H1 s _ fun v H2 s2 pv => by
    obtain ⟨t, rfl, e⟩ := pv
    exact ⟨t, _, 0, _, rfl, rfl, SqT.of e, atI_nat (j := 0) rfl, k H2 s2⟩
theorem ev_snd {x : I2} (h : EvP te σ H x) : Evl.Ev (tOp (rIxT K) te (tC (.int 1))) σ H (.int x.2) := fun H1 s Q k =>
  h H1 s _ fun v H2 s2 pv => by
    obtain ⟨t, rfl, e⟩ := pv
    exact ⟨t, _, 1, _, rfl, rfl, SqT.of e, atI_nat (j := 1) rfl, k H2 s2⟩
theorem EvP.mono {H' : Hp} {x : I2} (s : Same H H') (h : EvP te σ H x) : EvP te σ H' x := fun H1 s1 => h H1 (Same.trans s s1)
theorem EvQ.mono {H' : Hp} {m : List I2} (s : Same H H') (h : EvQ te σ H m) : EvQ te σ H' m := fun H1 s1 => h H1 (Same.trans s s1)
theorem EvN.mono {H' : Hp} {m : List I2} (s : Same H H') (h : EvN te σ H m) : EvN te σ H' m := fun H1 s1 => h H1 (Same.trans s s1)
/-- a, b = a pair -/
theorem asg_pair {D : Ends} {i j : Nat} {x : I2} (h : EvP te σ H x) (k : ∀ H1, Same H H1 → D.nx ((σ.set i (some (.int x.1))).set j (some (.int x.2))) H1) : tAsg te (gTup K 2 (gCons (gName i) (gCons (gName j) gNil))) D σ H :=
  h H (Same.refl H) _ fun v H1 s1 pv => by
    obtain ⟨t, rfl, e⟩ := pv
    exact ⟨t, _, rfl, SqT.of e, rfl, _, _, rfl, _, _, rfl, rfl, k H1 s1⟩
theorem asg_q {D : Ends} {i : Nat} {m : List I2} (h : EvQ te σ H m) (k : ∀ p H1, Same H H1 → PL H1 p m → D.nx (σ.set i (some (.ref p))) H1) : tAsg te (gName i) D σ H :=
  h H (Same.refl H) _ fun p H1 s1 hp => k p H1 s1 hp
theorem asg_n {D : Ends} {i : Nat} {m : List I2} (h : EvN te σ H m) (k : ∀ p H1, H p = none → Same H H1 → PL H1 p m → D.nx (σ.set i (some (.ref p))) H1) : tAsg te (gName i) D σ H :=
  h H (Same.refl H) _ fun p H1 np s1 hp => k p H1 np s1 hp
theorem asg_p {D : Ends} {i : Nat} {x : I2} (h : EvP te σ H x) (k : ∀ v H1, Same H H1 → PT H1 v x → D.nx (σ.set i (some v)) H1) : tAsg te (gName i) D σ H :=
  h H (Same.refl H) _ fun p H1 s1 hp => k p H1 s1 hp
theorem asg_i {D : Ends} {i : Nat} {v : V} (h : Evl.Ev te σ H v) (k : ∀ H1, Same H H1 → D.nx (σ.set i (some v)) H1) : tAsg te (gName i) D σ H :=
  h H (Same.refl H) _ fun H1 s1 => k H1 s1
theorem ret_n {D : Ends} {m : List I2} (h : EvN te σ H m) (k : ∀ p H1, H p = none → Same H H1 → PL H1 p m → D.rt (.ref p) H1) : tRet te D σ H :=
  h H (Same.refl H) _ fun p H1 np s1 hp => k p H1 np s1 hp
theorem ret_v {D : Ends} {v : V} (h : Evl.Ev te σ H v) (k : ∀ H1, Same H H1 → D.rt v H1) : tRet te D σ H :=
  h H (Same.refl H) _ fun H1 s1 => k H1 s1
/-- a test that is known by cases -/
theorem if_t {D : Ends} {t : TT} {tu tw : TS} {c : Prop} [Decidable c] (h : Evl.EvT t σ H (decide c)) (h1 : c → ∀ H1, Same H H1 → tu D σ H1) (h2 : ¬ c → ∀ H1, Same H H1 → tw D σ H1) : tIfS t tu tw D σ H :=
  h H (Same.refl H) _ fun H1 s1 => by
    by_cases e : c
    · rw [decide_eq_true e]
      exact iteT (h1 e H1 s1)
    · rw [decide_eq_false e]
      exact iteF (h2 e H1 s1)
theorem if_b {D : Ends} {t : TT} {tu tw : TS} {b : Bool} (h : Evl.EvT t σ H b) (h1 : b = true → ∀ H1, Same H H1 → tu D σ H1) (h2 : b = false → ∀ H1, Same H H1 → tw D σ H1) : tIfS t tu tw D σ H :=
  h H (Same.refl H) _ fun H1 s1 => by
    cases b with
    | true => exact iteT (h1 rfl H1 s1)
    | false => exact iteF (h2 rfl H1 s1)
/-! the same, something behind -/
variable {tz : TS}
theorem nx_mk {f : L2.St → Hp → Prop} {r : VK} {b c : L2.St → Hp → Prop} (h : f σ H) : (Ends.mk f r b c).nx σ H := h
theorem q_pair {D : Ends} {i j : Nat} {x : I2} (h : EvP te σ H x) (k : ∀ H1, Same H H1 → tz D ((σ.set i (some (.int x.1))).set j (some (.int x.2))) H1) : tSeq (tAsg te (gTup K 2 (gCons (gName i) (gCons (gName j) gNil)))) tz D σ H := asg_pair (D := { D with nx := tz D }) h k
theorem q_q {D : Ends} {i : Nat} {m : List I2} (h : EvQ te σ H m) (k : ∀ p H1, Same H H1 → PL H1 p m → tz D (σ.set i (some (.ref p))) H1) : tSeq (tAsg te (gName i)) tz D σ H := asg_q (D := { D with nx := tz D }) h k
theorem q_n {D : Ends} {i : Nat} {m : List I2} (h : EvN te σ H m) (k : ∀ p H1, H p = none → Same H H1 → PL H1 p m → tz D (σ.set i (some (.ref p))) H1) : tSeq (tAsg te (gName i)) tz D σ H := asg_n (D := { D with nx := tz D }) h k
theorem q_p {D : Ends} {i : Nat} {x : I2} (h : EvP te σ H x) (k : ∀ v H1, Same H H1 → PT H1 v x → tz D (σ.set i (some v)) H1) : tSeq (tAsg te (gName i)) tz D σ H := asg_p (D := { D with nx := tz D }) h k
theorem q_i {D : Ends} {i : Nat} {v : V} (h : Evl.Ev te σ H v) (k : ∀ H1, Same H H1 → tz D (σ.set i (some v)) H1) : tSeq (tAsg te (gName i)) tz D σ H := asg_i (D := { D with nx := tz D }) h k
theorem q_if {D : Ends} {t : TT} {tu tw : TS} {c : Prop} [Decidable c] (h : Evl.EvT t σ H (decide c)) (h1 : c → ∀ H1, Same H H1 → tu { D with nx := tz D } σ H1) (h2 : ¬ c → ∀ H1, Same H H1 → tw { D with nx := tz D } σ H1) : tSeq (tIfS t tu tw) tz D σ H := if_t (D := { D with nx := tz D }) h h1 h2
theorem q_ifb {D : Ends} {t : TT} {tu tw : TS} {b : Bool} (h : Evl.EvT t σ H b) (h1 : b = true → ∀ H1, Same H H1 → tu { D with nx := tz D } σ H1) (h2 : b = false → ∀ H1, Same H H1 → tw { D with nx := tz D } σ H1) : tSeq (tIfS t tu tw) tz D σ H := if_b (D := { D with nx := tz D }) h h1 h2
/-- an if without else -/
theorem q_when {D : Ends} {t : TT} {tu : TS} {c : Prop} [Decidable c] (h : Evl.EvT t σ H (decide c)) (h1 : c → ∀ H1, Same H H1 → tu { D with nx := tz D } σ H1) (h2 : ¬ c → ∀ H1, Same H H1 → tz D σ H1) : tSeq (tIfS t tu tNext) tz D σ H := if_t (D := { D with nx := tz D }) h h1 h2
theorem q_whenb {D : Ends} {t : TT} {tu : TS} {b : Bool} (h : Evl.EvT t σ H b) (h1 : b = true → ∀ H1, Same H H1 → tu { D with nx := tz D } σ H1) (h2 : b = false → ∀ H1, Same H H1 → tz D σ H1) : tSeq (tIfS t tu tNext) tz D σ H := if_b (D := { D with nx := tz D }) h h1 h2
end
theorem rv_eqI {H : Hp} {i j : Int} : Evl.RV rEq (.int i) (.int j) H (.bl (decide (i = j))) := fun H1 _ _ q => ⟨rfl, by
  have e : decide (V.int i = V.int j) = decide (i = j) := by
    by_cases h : i = j
    · rw [decide_eq_true h, decide_eq_true (congrArg V.int h)]
    · rw [decide_eq_false h, decide_eq_false fun z => h (V.int.inj z)]
  rw [e]
  exact q H1 (Evl.Ex.refl H1)⟩
theorem rv_neI {H : Hp} {i j : Int} : Evl.RV rNe (.int i) (.int j) H (.bl (!decide (i = j))) := fun H1 _ _ q => ⟨rfl, by
  have e : decide (V.int i = V.int j) = decide (i = j) := by
    by_cases h : i = j
    · rw [decide_eq_true h, decide_eq_true (congrArg V.int h)]
    · rw [decide_eq_false h, decide_eq_false fun z => h (V.int.inj z)]
  rw [e]
  exact q H1 (Evl.Ex.refl H1)⟩
theorem rv_isB {H : Hp} {a b : Bool} : Evl.RV rIsB (.bl a) (.bl b) H (.bl (decide (a = b))) := fun H1 _ _ q => ⟨a, b, rfl, rfl, q H1 (Evl.Ex.refl H1)⟩
theorem rv_notB {H : Hp} {a b : Bool} : Evl.RV rNotB (.bl a) (.bl b) H (.bl (!decide (a = b))) := fun H1 _ _ q => ⟨a, b, rfl, rfl, q H1 (Evl.Ex.refl H1)⟩
theorem rv_neB {H : Hp} {a b : Bool} : Evl.RV rNe (.bl a) (.bl b) H (.bl (!decide (a = b))) := fun H1 _ _ q => ⟨rfl, by
  have e : decide (V.bl a = V.bl b) = decide (a = b) := by cases a <;> cases b <;> decide
  rw [e]
  exact q H1 (Evl.Ex.refl H1)⟩
theorem stretches_one (x : I2) : stretches [x] = (((clusS [x]).reverse.flatMap parts).foldl joinp []).reverse := by
  have e : srt [x] = [x] := (srt_of (List.Perm.refl _) (List.pairwise_singleton _ _)).symm
  unfold stretches clus
  rw [e]
theorem stretches_nil : stretches [] = [] := by
  have e : srt [] = [] := (srt_of (List.Perm.refl _) .nil).symm
  unfold stretches clus
  rw [e]
  rfl
theorem HB.small {hs : List I2} (h : (decide (hs.length ≤ 1000) && hs.all fun h => decide (0 ≤ h.2) && decide (h.1.natAbs < 1000000) && decide (h.2.natAbs < 1000000)) = true) : HB hs := by
  rw [Bool.and_eq_true, decide_eq_true_iff, List.all_eq_true] at h
  obtain ⟨h1, h2⟩ := h
  have z : 1000000 < (2 : Nat) ^ 200 := by decide +kernel
  refine ⟨h1, fun x m => ?_, fun x m => ?_, fun x m => ?_⟩ <;>
  · have q := h2 x m
    rw [Bool.and_eq_true, Bool.and_eq_true, decide_eq_true_iff, decide_eq_true_iff, decide_eq_true_iff] at q
    first
      | exact q.1.1
      | exact Nat.lt_trans q.1.2 z
      | exact Nat.lt_trans q.2 z
end Wk
/-! the walk, part Q: comprehensions over lists of pairs, sorted, sum, any, all -/
namespace Wk
open PySem PySem.Spec PyProof.Rows L2 Spr
section
variable {K : PySem.W.Frag} {σ : L2.St} {H : Hp} {te ta tb tl : TE} {t : TT}
/-- the slots of a turn of a comprehension whose target is a pair -/
abbrev s2 (σ : L2.St) (vs : List Nat) (i j : Nat) (x : I2) : L2.St := ((wipe σ vs).set i (some (.int x.1))).set j (some (.int x.2))
/-- [e for a, b in pairs if t] -/
theorem el_lcP {m : List I2} {i j : Nat} {vs : List Nat} (f : I2 → Bool) (v : I2 → V) (h : EvQ tl σ H m) (hm : m.length ≤ 40000) (hw : ∀ a b, wipe (((wipe σ vs).set i a).set j b) vs = wipe σ vs)
    (ht : ∀ x ∈ m, Evl.EvT t (s2 σ vs i j x) H (f x)) (he : ∀ x ∈ m, f x = true → Evl.Ev te (s2 σ vs i j x) H (v x)) :
    Evl.EvL (tLc (iList K tl) (gTup K 2 (gCons (gName i) (gCons (gName j) gNil))) t te vs) σ H ((m.filter f).map v) := fun H0 s0 Q q =>
  h H0 s0 _ fun a H1 s1 ha => by
    obtain ⟨xs, ea, px⟩ := ha
    refine ⟨a, rfl, ⟨xs, SqL.of ea⟩, fun D nD => ?_⟩
    refine lc_list (K := K) (a := a) (xs := xs) (fun k H' => Same H1 H' ∧ H' D = some (.lst (((m.take k).filter f).map v))) ⟨same_new nD, upd_same⟩ (fun k H' _ p => SqL.of (p.1 _ _ ea)) ?_ ?_
    · rintro k x H' hk ⟨s2', e2⟩
      obtain ⟨y, hy, tt, rfl, et⟩ := pr_get px hk
      have my : y ∈ m := List.mem_of_getElem? hy
      have hkl : k < m.length := (List.getElem?_eq_some_iff.mp hy).1
      refine ⟨tt, _, rfl, SqT.of (s2' _ _ et), rfl, _, _, rfl, _, _, rfl, rfl, hw _ _, ?_⟩
      refine ht y my H' (Same.trans (Same.trans s0 s1) s2') _ fun H3 s3 => ?_
      rw [take_snoc hy, List.filter_append, List.map_append]
      cases hf : f y with
      | false =>
        refine iteF ⟨Same.trans s2' s3, ?_⟩
        rw [List.filter_cons_of_neg (by rw [hf]; decide), List.filter_nil, List.map_nil, List.append_nil]
        exact s3 _ _ e2
      | true =>
        refine iteT ?_
        refine he y my hf H3 (Same.trans (Same.trans (Same.trans s0 s1) s2') s3) _ fun H4 s4 => ?_
        refine ⟨_, s4 _ _ (s3 _ _ e2), ?_, same_mut (Same.trans s2' (Same.trans s3 s4)) nD, ?_⟩
        · rw [List.length_map]
          have := List.length_filter_le f (m.take k)
          rw [List.length_take] at this
          exact Evl.sz_lt (by omega)
        · rw [upd_same, List.filter_cons_of_pos hf, List.filter_nil]
          rfl
    · rintro H' ⟨s2', e2⟩
      rw [pr_len px, List.take_length] at e2
      exact q D H' (Same.free s1 nD) (Same.trans s1 s2') e2
/-- the same, the items pairs -/
theorem evn_lcP {m : List I2} {i j : Nat} {vs : List Nat} (f : I2 → Bool) (v : I2 → I2) (h : EvQ tl σ H m) (hm : m.length ≤ 40000) (hw : ∀ a b, wipe (((wipe σ vs).set i a).set j b) vs = wipe σ vs)
    (ht : ∀ x ∈ m, Evl.EvT t (s2 σ vs i j x) H (f x)) (he : ∀ x ∈ m, f x = true → EvP te (s2 σ vs i j x) H (v x)) :
    EvN (tLc (iList K tl) (gTup K 2 (gCons (gName i) (gCons (gName j) gNil))) t te vs) σ H ((m.filter f).map v) := fun H0 s0 Q q =>
  h H0 s0 _ fun a H1 s1 ha => by
    obtain ⟨xs, ea, px⟩ := ha
    refine ⟨a, rfl, ⟨xs, SqL.of ea⟩, fun D nD => ?_⟩
    refine lc_list (K := K) (a := a) (xs := xs) (fun k H' => Same H1 H' ∧ PL H' D (((m.take k).filter f).map v)) ⟨same_new nD, ⟨[], upd_same, .nil⟩⟩ (fun k H' _ p => SqL.of (p.1 _ _ ea)) ?_ ?_
    · rintro k x H' hk ⟨s2', e2⟩
      obtain ⟨y, hy, tt, rfl, et⟩ := pr_get px hk
      have my : y ∈ m := List.mem_of_getElem? hy
      have hkl : k < m.length := (List.getElem?_eq_some_iff.mp hy).1
      refine ⟨tt, _, rfl, SqT.of (s2' _ _ et), rfl, _, _, rfl, _, _, rfl, rfl, hw _ _, ?_⟩
      refine ht y my H' (Same.trans (Same.trans s0 s1) s2') _ fun H3 s3 => ?_
      rw [take_snoc hy, List.filter_append, List.map_append]
      cases hf : f y with
      | false =>
        refine iteF ⟨Same.trans s2' s3, ?_⟩
        rw [List.filter_cons_of_neg (by rw [hf]; decide), List.filter_nil, List.map_nil, List.append_nil]
        exact e2.mono s3
      | true =>
        refine iteT ?_
        refine he y my hf H3 (Same.trans (Same.trans (Same.trans s0 s1) s2') s3) _ fun w H4 s4 pw => ?_
        obtain ⟨zs, ez, pz⟩ := e2.mono (Same.trans s3 s4)
        refine ⟨_, ez, ?_, same_mut (Same.trans s2' (Same.trans s3 s4)) nD, ⟨_, upd_same, ?_⟩⟩
        · rw [pr_len pz, List.length_map]
          have := List.length_filter_le f (m.take k)
          rw [List.length_take] at this
          exact Evl.sz_lt (by omega)
        · rw [List.filter_cons_of_pos hf, List.filter_nil]
          exact pr_snoc (PTs.mono (tp_mut ez) pz) (PT.mono (tp_mut ez) pw)
    · rintro H' ⟨s2', e2⟩
      rw [pr_len px, List.take_length] at e2
      exact q D H' (Same.free s1 nD) (Same.trans s1 s2') e2
theorem et_yes : Evl.EvT tYes σ H true := fun H1 _ _ q => q H1 (Evl.Ex.refl H1)
/-- without a test -/
theorem el_lcP0 {m : List I2} {i j : Nat} {vs : List Nat} (v : I2 → V) (h : EvQ tl σ H m) (hm : m.length ≤ 40000) (hw : ∀ a b, wipe (((wipe σ vs).set i a).set j b) vs = wipe σ vs)
    (he : ∀ x ∈ m, Evl.Ev te (s2 σ vs i j x) H (v x)) : Evl.EvL (tLc (iList K tl) (gTup K 2 (gCons (gName i) (gCons (gName j) gNil))) tYes te vs) σ H (m.map v) := by
  have := el_lcP (K := K) (t := tYes) (te := te) (fun _ => true) v h hm hw (fun x _ => et_yes) (fun x mx _ => he x mx)
  rw [List.filter_eq_self.mpr (fun _ _ => rfl)] at this
  exact this
theorem evn_lcP0 {m : List I2} {i j : Nat} {vs : List Nat} (v : I2 → I2) (h : EvQ tl σ H m) (hm : m.length ≤ 40000) (hw : ∀ a b, wipe (((wipe σ vs).set i a).set j b) vs = wipe σ vs)
    (he : ∀ x ∈ m, EvP te (s2 σ vs i j x) H (v x)) : EvN (tLc (iList K tl) (gTup K 2 (gCons (gName i) (gCons (gName j) gNil))) tYes te vs) σ H (m.map v) := by
  have := evn_lcP (K := K) (t := tYes) (te := te) (fun _ => true) v h hm hw (fun x _ => et_yes) (fun x mx _ => he x mx)
  rw [List.filter_eq_self.mpr (fun _ _ => rfl)] at this
  exact this
theorem evn_sorted {m : List I2} (h : EvQ te σ H m) : EvN (tCB (rSortedPO K) (tCons te tNil)) σ H (srt m) := fun H0 s0 Q q =>
  h H0 s0 _ fun a H1 s1 ha => by
    obtain ⟨xs, ea, px⟩ := ha
    refine ⟨a, xs, kOf H1, rfl, SqL.of ea, fun x m => ?_, fun ys p h1 h2 np => ?_⟩
    · obtain ⟨h, _, r⟩ := pr_mem px m
      exact r.tup
    · exact q p _ (Same.free s1 np) (Same.trans s1 (same_new np)) ⟨ys, upd_same, (sorted_is px h1 h2).mono (tp_new np)⟩
theorem ev_sumL {ns : List Int} (h : Evl.EvL te σ H (ns.map V.int)) : Evl.Ev (tCB (rSum K) (tCons te tNil)) σ H (.int ns.sum) := fun H0 s0 Q q =>
  h H0 s0 _ fun p H1 _ s1 hp => ⟨p, ns, rfl, SqL.of hp, q H1 s1⟩
theorem ev_anyL {bs : List Bool} (h : Evl.EvL te σ H (bs.map V.bl)) : Evl.Ev (tCB (rAny K) (tCons te tNil)) σ H (.bl (bs.any id)) := fun H0 s0 Q q =>
  h H0 s0 _ fun p H1 _ s1 hp => ⟨p, bs, rfl, SqL.of hp, q H1 s1⟩
theorem ev_allL {bs : List Bool} (h : Evl.EvL te σ H (bs.map V.bl)) : Evl.Ev (tCB (rAll K) (tCons te tNil)) σ H (.bl (bs.all id)) := fun H0 s0 Q q =>
  h H0 s0 _ fun p H1 _ s1 hp => ⟨p, bs, rfl, SqL.of hp, q H1 s1⟩
theorem ev_intB {b : Bool} (h : Evl.Ev te σ H (.bl b)) : Evl.Ev (tCB (fun xs H Q => (∃ i, xs = [.int i] ∧ Q (.int i) H) ∨ ∃ k, xs = [.bl k] ∧ Q (.int (if k then 1 else 0)) H) (tCons te tNil)) σ H (.int (if b then 1 else 0)) := fun H0 s0 Q q =>
  h H0 s0 _ fun H1 s1 => .inr ⟨b, rfl, q H1 s1⟩
/-- a <= b <= c -/
theorem ev_chain {a b c : Int} {tc : TE} (h1 : Evl.Ev ta σ H (.int a)) (h2 : Evl.Ev tb σ H (.int b)) (h3 : Evl.Ev tc σ H (.int c)) :
    Evl.Ev (tChain (rI0 fun i j => .bl (decide (i ≤ j))) (rI0 fun i j => .bl (decide (i ≤ j))) ta tb tc) σ H (.bl (decide (a ≤ b) && decide (b ≤ c))) := fun H0 s0 Q q =>
  h1 H0 s0 _ fun H1 s1 => h2 H1 (Same.trans s0 s1) _ fun H2 s2 => ⟨a, b, rfl, rfl, decide (a ≤ b), rfl, by
    generalize decide (a ≤ b) = d at q ⊢
    cases d with
    | false => exact iteF (q H2 (Same.trans s1 s2))
    | true =>
      refine iteT ?_
      exact h3 H2 (Same.trans (Same.trans s0 s1) s2) _ fun H3 s3 => ⟨b, c, rfl, rfl, q H3 (Same.trans (Same.trans s1 s2) s3)⟩⟩
theorem evn_str {hs : List I2} (h : EvQ ta σ H hs) (hb : HB hs) : EvN (tCall spStr [] C8.E0 (tCons ta tNil)) σ H (stretches hs) := fun H0 s0 Q q =>
  h H0 s0 _ fun a H1 s1 ha => ⟨a, hs, rfl, ha, hb, fun H2 p s2 np hp => q p H2 (Same.free s1 np) (Same.trans s1 s2) hp⟩
/-- xs[i] = a pair -/
theorem q_setP {D : Ends} {tz : TS} {l : Addr} {m : List I2} {k : Nat} {x : I2} (hp : PL H l m) (h : EvP te σ H x) (ho : Evl.Ev ta σ H (.ref l)) (hi : Evl.Ev tb σ H (.int (k : Int))) (hk : k < m.length)
    (cont : ∀ xs v H1, Same H H1 → H1 l = some (.lst xs) → PTs H1 xs m → PT H1 v x → tz D σ (upd H1 l (.lst (xs.set k v)))) : tSeq (tAsg te (gSub ta tb rSetL)) tz D σ H :=
  h H (Same.refl H) _ fun v H1 s1 pv => ho H1 s1 _ fun H2 s2 => hi H2 (Same.trans s1 s2) _ fun H3 s3 => by
    obtain ⟨xs, e, px⟩ := hp.mono (Same.trans (Same.trans s1 s2) s3)
    exact ⟨l, xs, _, k, rfl, rfl, e, Evl.ixN_nat (by rw [pr_len px]; exact hk), cont xs v H3 (Same.trans (Same.trans s1 s2) s3) e px (pv.mono (same_tp (Same.trans s2 s3)))⟩
end
theorem hasB_cons (s : I2) (l : List I2) (p : Int) : hasB (s :: l) p = ((decide (s.1 ≤ p) && decide (p ≤ s.2)) || hasB l p) := rfl
theorem hasB_app (a b : List I2) (p : Int) : hasB (a ++ b) p = (hasB a p || hasB b p) := by
  unfold hasB
  rw [List.any_append]
end Wk
/-! heaps cut, put together, turned about; how long and how great stretches are -/
namespace Wk
open PySem PySem.Spec PyProof.Rows L2 Spr
theorem HB.sub {hs m : List I2} (h : HB hs) (hl : m.length ≤ hs.length) (hm : ∀ x ∈ m, x ∈ hs) : HB m := ⟨Nat.le_trans hl h.len, fun x q => h.pos x (hm x q), fun x q => h.w1 x (hm x q), fun x q => h.w2 x (hm x q)⟩
theorem HB.app {a b : List I2} (h : HB a) (g : HB b) (hl : a.length + b.length ≤ 1000) : HB (a ++ b) := by
  refine ⟨by rw [List.length_append]; exact hl, fun x m => ?_, fun x m => ?_, fun x m => ?_⟩ <;> rcases List.mem_append.mp m with m | m
  · exact h.pos x m
  · exact g.pos x m
  · exact h.w1 x m
  · exact g.w1 x m
  · exact h.w2 x m
  · exact g.w2 x m
theorem HB.cut {hs : List I2} (h : HB hs) (lo hi : Option Int) : HB (cutI hs lo hi) := h.sub (cutI_len _ _ _) fun _ m => cutI_mem m
theorem HB.rev {hs : List I2} (h : HB hs) : HB hs.reverse := h.sub (by rw [List.length_reverse]; exact Nat.le_refl _) fun _ m => List.mem_reverse.mp m
theorem cut_last (m : List I2) : cutI m none (some (-1)) = m.dropLast := by
  unfold cutI
  have e1 : HT.sIx m.length 0 none = 0 := rfl
  have e2 : HT.sIx m.length m.length (some (-1)) = m.length - 1 := by
    show (if (-1 : Int) < 0 then ((-1 : Int) + (m.length : Int)).toNat else min (-1 : Int).toNat m.length) = _
    rw [if_pos (by decide)]
    omega
  rw [e1, e2, List.drop_zero, Nat.sub_zero, List.dropLast_eq_take]
theorem stretches_wd {hs : List I2} (h : HB hs) : ∀ s ∈ stretches hs, Wd 700 s.1 ∧ Wd 700 s.2 := by
  have hc := h.clus
  refine stretches_in h.pos (p := fun x => Wd 700 x) fun c mc x h1 h2 => ?_
  have i1 : hs.length ≤ 1001 := Nat.le_trans h.len (by decide)
  obtain ⟨c0, w1, w2⟩ := hc.get i1 (List.mem_reverse.mp mc)
  obtain ⟨e1, e2⟩ := ends_wd (b := c.2) c0 w1 w2
  exact abs_mid h1 h2 e1 e2
theorem stretches_len {hs : List I2} (h : HB hs) : (stretches hs).length ≤ 3000 := by
  have h1 := joins_len ((clus hs).flatMap parts) []
  have h2 := flat_len (clus hs)
  have h3 := h.clus.len
  have h4 := h.len
  have h5 : (clus hs).length = (clusS (srt hs)).length := by unfold clus; rw [List.length_reverse]
  unfold stretches
  rw [List.length_reverse]
  rw [List.length_nil] at h1
  omega
end Wk
/-! the walk, part E: Spread, spread -/
namespace Wk
open PySem PySem.Spec PyProof.Rows L2 Spr
section
variable {P : Program} {w : World} {K : PySem.W.Frag} {mg : Str → Option Value} {base : Heap} {C : Addr}
theorem MethAt.met {m qual : Str} {st : Stmt} {N ps : List Str} {k : Nat} {sp : Sp} (c : Cls K C) (D : MethAt K C m qual st ps) (S : FnScope N ps (defScope st)) (len : ∀ vs H Q E, sp vs H Q E → vs.length = ps.length)
    (hbody : ∀ (f : Addr) (cdv : Value) (A : Around) (outer : List Env) (s : Shared) (H : Hp) (vs : List V) (Q : VK) (E : XK), Room k (A.deeper (envOfC qual (defScope st) s.heap.objs.size f cdv)) → sp vs H Q E →
      ∃ t, PSs (cxOf CX0 P w K mg base N qual (defScope st) f cdv A outer s H E).nox (defBody st) t ∧ t { nx := fun _ H' => Q .non H', rt := Q } (start N vs) H) : C8.Met P w K mg base (k + 1) C m sp [] := by
  obtain ⟨f, fd, F, hm, b⟩ := D.ex
  exact ⟨f, fd, ps, [], c, hm, F.ok S len (fun cdv A outer s H vs Q E hr h => hbody f cdv A outer s H vs Q E hr h), b, .nil⟩
theorem InitAt.mak {x qual : Str} {st : Stmt} {N ps : List Str} {k : Nat} {sp : Sp} (g : mg x = some (.ref C)) (D : InitAt K C qual st ps) (S : FnScope N ps (defScope st)) (len : ∀ vs H Q E, sp vs H Q E → vs.length = ps.length)
    (hbody : ∀ (f : Addr) (cdv : Value) (A : Around) (outer : List Env) (s : Shared) (H : Hp) (vs : List V) (Q : VK) (E : XK), Room k (A.deeper (envOfC qual (defScope st) s.heap.objs.size f cdv)) → sp vs H Q E →
      ∃ t, PSs (cxOf CX0 P w K mg base N qual (defScope st) f cdv A outer s H E).nox (defBody st) t ∧ t { nx := fun _ H' => Q .non H', rt := Q } (start N vs) H) : C8.Mak P w K mg base (k + 1) x C sp [] := by
  obtain ⟨f, fd, F, M, b⟩ := D.ex
  exact ⟨f, fd, ps, [], M, F.ok S len (fun cdv A outer s H vs Q E hr h => hbody f cdv A outer s H vs Q E hr h), g, b, .nil⟩
def fS (l : Addr) : List (Str × V) := putF "stretches" (.ref l) []
theorem fS_at (l : Addr) : (fS l).lookup ("stretches" : Str) = some (.ref l) := by
  unfold fS
  rw [lookup_putF, if_pos rfl]
theorem fS_no (l : Addr) {m : Str} (h : ¬ m = "stretches") : (fS l).lookup m = none := by
  unfold fS
  rw [lookup_putF, if_neg h]
  all_goals rfl
/-- __init__: its field is a new list of the same -/
def spInit (K : PySem.W.Frag) (C : Addr) : Sp := fun vs H Q _ => ∃ (x dx l : Addr) (xs : List V), vs = [.ref x, .ref l] ∧ H x = some (.ins C dx []) ∧ SqL K H l xs ∧ ∀ q, H q = none → Q .non (upd (upd H q (.lst xs)) x (.ins C dx (fS q)))
theorem mak_Spread (T : Top K mg) (TS : Top_Spread K mg C) : C8.Mak P w K mg base 1 "Spread" C (spInit K C) [] := by
  refine TS.i_Spread.mak TS.g_Spread sc_Spread_init (fun vs H Q E h => ?_) (fun f cdv A outer s H vs Q E hr h => ?_)
  · obtain ⟨x, dx, l, xs, rfl, _⟩ := h
    rfl
  · obtain ⟨x, dx, l, xs, rfl, hx, hl, q⟩ := h
    refine ⟨_, (pss_one (ps_fld (pv 0) (pe_callTy call_list_of (by rfl) T.m_list (by decide +kernel) (pa_cons (pv 1) pa_nil)) rfl)), ?_⟩
    refine ⟨_, rfl, l, xs, rfl, .inl hl, fun q1 hq => ?_⟩
    have nx : x ≠ q1 := ne_of_none hx hq
    refine ⟨_, rfl, x, C, dx, [], rfl, ?_, TS.cl_Spread, TS.na_Spread_stretches, (by show 0 < 1000; decide), ?_⟩
    · rw [upd_ne nx]
      exact hx
    · exact q q1 hq
def spShows (C : Addr) : Sp := fun vs H Q _ => ∃ (x dx l a : Addr) (m hs : List I2), vs = [.ref x, .ref a] ∧ H x = some (.ins C dx (fS l)) ∧ PL H l m ∧ PL H a hs ∧ HB hs ∧ ∀ H', Same H H' → Q (.bl (decide (m = stretches hs))) H'
def spSpread (C : Addr) : Sp := fun vs H Q _ => ∃ (a : Addr) (hs : List I2), vs = [.ref a] ∧ PL H a hs ∧ HB hs ∧ ∀ H' x dx l, Same H H' → H x = none → H l = none → H' x = some (.ins C dx (fS l)) → PL H' l (stretches hs) → Q (.ref x) H'
theorem cal_spread (T : Top K mg) (TS : Top_Spread K mg C) : C8.Cal P w K mg base 4 "spread" (spSpread C) [] := by
  have c_stretches_of : C8.Cal P w K mg base 3 "stretches_of" spStr [] := cal_stretches_of T
  have c_check_heaps : C8.Cal P w K mg base 3 "check_heaps" (spCheck K) [] := cal_check_heaps T
  have c_Spread : C8.Mak P w K mg base 1 "Spread" C (spInit K C) [] := mak_Spread T TS
  refine T.d_spread.cal sc_spread (fun vs H Q E h => ?_) (fun f cdv A outer s H vs Q E hr h => ?_)
  · obtain ⟨a, hs, rfl, _⟩ := h
    rfl
  · obtain ⟨a, hs, rfl, ha, hb, q⟩ := h
    refine ⟨_, (pss_cons (ps_expr (C8.pe_c c_check_heaps hr (by decide) (by rfl) (pa_cons (pv 0) pa_nil)))
 (pss_one (ps_ret (C8.pe_mk c_Spread hr (by decide) (by rfl) (pa_cons (C8.pe_c c_stretches_of hr (by decide) (by rfl) (pa_cons (pv 0) pa_nil)) pa_nil))))), ?_⟩
    refine ⟨_, rfl, _, _, rfl, ha.dp, hb.all, ?_, fun H1 s1 => ?_⟩
    · rw [List.length_map]
      have := hb.len
      omega
    refine ⟨_, rfl, a, hs, rfl, ha.mono s1, hb, fun H2 p s2 np hp => fun x dx nx ndx ne => ?_⟩
    obtain ⟨xs, ep, px⟩ := hp
    have s3 : Same H2 (upd H2 dx (.own x)) := same_new ndx
    have nx3 : upd H2 dx (.own x) x = none := by rw [upd_ne ne.symm]; exact nx
    have s4 : Same (upd H2 dx (.own x)) (upd (upd H2 dx (.own x)) x (.ins C dx [])) := same_new nx3
    have s34 := s3.trans s4
    have s14 := (s1.trans s2).trans s34
    refine ⟨x, dx, p, xs, rfl, upd_same, SqL.of (s34 _ _ ep), fun l nl => ⟨rfl, ?_⟩⟩
    have nxl : x ≠ l := ne_of_none upd_same nl
    have s5 : Same H (upd (upd (upd (upd H2 dx (.own x)) x (.ins C dx [])) l (.lst xs)) x (.ins C dx (fS l))) := same_mut (s14.trans (same_new nl)) ((s1.trans s2).free nx)
    refine q _ x dx l s5 ((s1.trans s2).free nx) (s14.free nl) upd_same ⟨xs, ?_, ?_⟩
    · rw [upd_ne nxl.symm, upd_same]
    · refine PTs.mono ?_ px
      intro b ys e
      have nb : b ≠ x := ne_of_none e nx
      rw [upd_ne nb]
      exact same_new nl _ _ (s34 _ _ e)
end
end Wk
/-! the walk, part F: Spread(..).shows(..), spread(..) as values -/
namespace Wk
open PySem PySem.Spec PyProof.Rows L2 Spr
/-! ### Spread(..).shows(..) -/
section
variable {K : PySem.W.Frag} {C : Addr} {σ : L2.St} {H : Hp} {ta tb : TE}
/-- a Spread object, its field a new list -/
def EvS (C : Addr) (te : TE) (σ : L2.St) (H : Hp) (m : List I2) : Prop := ∀ H1, Same H H1 → ∀ Q : VK, (∀ x dx l H2, H1 x = none → H1 l = none → Same H1 H2 → H2 x = some (.ins C dx (fS l)) → PL H2 l m → Q (.ref x) H2) → te σ H1 Q
theorem evs_make {m : List I2} (h : EvQ ta σ H m) : EvS C (tMake C (spInit K C) [] C8.E0 (tCons ta tNil)) σ H m := fun H1 s Q k =>
  h H1 s _ fun a H2 s2 hp => fun x dx nx ndx ne => by
    obtain ⟨xs, e, ps⟩ := hp
    have s3 : Same H2 (upd H2 dx (.own x)) := same_new ndx
    have nx3 : upd H2 dx (.own x) x = none := by rw [upd_ne ne.symm]; exact nx
    have s4 : Same (upd H2 dx (.own x)) (upd (upd H2 dx (.own x)) x (.ins C dx [])) := same_new nx3
    have s34 := s3.trans s4
    refine ⟨x, dx, a, xs, rfl, upd_same, SqL.of (s34 _ _ e), fun l nl => ⟨rfl, ?_⟩⟩
    have nxl : x ≠ l := ne_of_none upd_same nl
    have s24 := (Same.trans s2 s34).trans (same_new (o := .lst xs) nl)
    refine k x dx l _ (Same.free s2 nx) (Same.free (Same.trans s2 s34) nl) (same_mut s24 (Same.free s2 nx)) upd_same ⟨xs, ?_, ?_⟩
    · rw [upd_ne nxl.symm, upd_same]
    · refine PTs.mono ?_ ps
      intro b ys e
      have nb : b ≠ x := ne_of_none e nx
      rw [upd_ne nb]
      exact same_new nl _ _ (s34 _ _ e)
theorem q_s {tz : TS} {D : Ends} {i : Nat} {m : List I2} (h : EvS C ta σ H m) (k : ∀ x dx l H1, H x = none → H l = none → Same H H1 → H1 x = some (.ins C dx (fS l)) → PL H1 l m → tz D (σ.set i (some (.ref x))) H1) : tSeq (tAsg ta (gName i)) tz D σ H :=
  h H (Same.refl H) _ fun x dx l H1 nx nl s1 ex hl => k x dx l H1 nx nl s1 ex hl
theorem evs_spread {C : Addr} {hs : List I2} (h : EvQ ta σ H hs) (hb : HB hs) : EvS C (tCall (spSpread C) [] C8.E0 (tCons ta tNil)) σ H (stretches hs) := fun H0 s0 Q q =>
  h H0 s0 _ fun a H1 s1 ha => ⟨a, hs, rfl, ha, hb, fun H2 x dx l s2 nx nl ex hl => q x dx l H2 (Same.free s1 nx) (Same.free s1 nl) (Same.trans s1 s2) ex hl⟩
theorem shows_no : ¬ ("shows" : Str) = "stretches" := by decide +kernel
theorem ev_showsM {m hs : List I2} (h1 : EvS C ta σ H m) (h2 : EvQ tb σ H hs) (hb : HB hs) : Evl.Ev (tMeth C "shows" (spShows C) [] C8.E0 ta (tCons tb tNil)) σ H (.bl (decide (m = stretches hs))) := fun H1 s Q k =>
  h1 H1 s _ fun x dx l H2 nx nl s2 ex hl => ⟨x, dx, fS l, rfl, ex, fS_no l shows_no, h2 H2 (Same.trans s s2) _ fun a H3 s3 ha => ⟨x, dx, l, a, m, hs, rfl, s3 _ _ ex, hl.mono s3, ha, hb, fun H4 s4 => k H4 (Same.trans (Same.trans s2 s3) s4)⟩⟩
theorem ev_shows {m hs : List I2} {i : Nat} {x dx l : Addr} (hi : σ[i]? = some (some (.ref x))) (ex : H x = some (.ins C dx (fS l))) (hl : PL H l m) (h2 : EvQ tb σ H hs) (hb : HB hs) :
    Evl.Ev (tMeth C "shows" (spShows C) [] C8.E0 (tVar i) (tCons tb tNil)) σ H (.bl (decide (m = stretches hs))) := fun H1 s Q k =>
  ⟨.ref x, hi, x, dx, fS l, rfl, s _ _ ex, fS_no l shows_no, h2 H1 s _ fun a H3 s3 ha => ⟨x, dx, l, a, m, hs, rfl, s3 _ _ (s _ _ ex), hl.mono (Same.trans s s3), ha, hb, fun H4 s4 => k H4 (Same.trans s3 s4)⟩⟩
/-- its field -/
theorem evq_fld {m : List I2} {i : Nat} {x dx l : Addr} (c : Cls K C) (na : NoAttr K C "stretches") (hi : σ[i]? = some (some (.ref x))) (ex : H x = some (.ins C dx (fS l))) (hl : PL H l m) : EvQ (tFld K (tVar i) "stretches") σ H m := fun H1 s Q k =>
  ⟨.ref x, hi, x, C, dx, _, _, rfl, s _ _ ex, c, na, fS_at l, k l H1 (Same.refl H1) (hl.mono s)⟩
/-- spread(heaps).stretches -/
theorem evn_spread {hs : List I2} (c : Cls K C) (na : NoAttr K C "stretches") (h : EvQ ta σ H hs) (hb : HB hs) : EvN (tFld K (tCall (spSpread C) [] C8.E0 (tCons ta tNil)) "stretches") σ H (stretches hs) := fun H1 s Q k =>
  h H1 s _ fun a H2 s2 ha => ⟨a, hs, rfl, ha, hb, fun H3 x dx l s3 nx nl ex hl => ⟨x, C, dx, _, _, rfl, ex, c, na, fS_at l, k l H3 (Same.free s2 nl) (Same.trans s2 s3) hl⟩⟩
end
end Wk
/-! the walk, part S: check_place, left, has -/
namespace Wk
open PySem PySem.Spec PyProof.Rows L2 Spr
section
variable {P : Program} {w : World} {K : PySem.W.Frag} {mg : Str → Option Value} {base : Heap}
def spPlace : Sp := fun vs H Q _ => ∃ p : Int, vs = [.int p] ∧ Q .non H
theorem cal_check_place (T : Top K mg) : C8.Cal P w K mg base 2 "check_place" spPlace [] := by
  have c_is_whole : C8.Cal P w K mg base 1 "is_whole" (spWhole K) [] := cal_is_whole T
  refine T.d_check_place.cal sc_check_place (fun vs H Q E h => ?_) (fun f cdv A outer s H vs Q E hr h => ?_)
  · obtain ⟨p, rfl, _⟩ := h
    rfl
  · obtain ⟨p, rfl, q⟩ := h
    refine ⟨_, (pss_one (ps_if (pt_not (pt_val (C8.pe_c c_is_whole hr (by decide) (by rfl) (pa_cons (pv 0) pa_nil))))
 (pss_one ps_never)
 pss_nil)), ?_⟩
    exact ⟨_, rfl, .int p, "int", rfl, .base (.int p), by decide, true, rfl, iteF q⟩
end
end Wk
/-! the walk, part L: left -/
namespace Wk
open PySem PySem.Spec PyProof.Rows L2 Spr
section
variable {P : Program} {w : World} {K : PySem.W.Frag} {mg : Str → Option Value} {base : Heap}
def spLeft : Sp := fun vs H Q _ => ∃ (a : Addr) (hs : List I2) (p : Int), vs = [.ref a, .int p] ∧ PL H a hs ∧ HB hs ∧ ∀ H', Same H H' → Q (.int (if hasB (stretches hs) p then 1 else 0)) H'
theorem cal_left (T : Top K mg) : C8.Cal P w K mg base 4 "left" spLeft [] := by
  have c_stretches_of : C8.Cal P w K mg base 3 "stretches_of" spStr [] := cal_stretches_of T
  have c_check_heaps : C8.Cal P w K mg base 3 "check_heaps" (spCheck K) [] := cal_check_heaps T
  have c_check_place : C8.Cal P w K mg base 2 "check_place" spPlace [] := cal_check_place T
  refine T.d_left.cal sc_left (fun vs H Q E h => ?_) (fun f cdv A outer s H vs Q E hr h => ?_)
  · obtain ⟨a, hs, p, rfl, _⟩ := h
    rfl
  · obtain ⟨a, hs, p, rfl, ha, hb, q⟩ := h
    refine ⟨_, (pss_cons (ps_expr (C8.pe_c c_check_heaps hr (by decide) (by rfl) (pa_cons (pv 0) pa_nil)))
 (pss_cons (ps_expr (C8.pe_c c_check_place hr (by decide) (by rfl) (pa_cons (pv 1) pa_nil)))
 (pss_cons (ps_for PassesOwn.never rfl (pi_list (C8.pe_c c_stretches_of hr (by decide) (by rfl) (pa_cons (pv 0) pa_nil))) (pg_tup rfl (pgs_cons (pg_name (i := 2) sc_left.nd rfl (Or.inl rfl)) (pgs_cons (pg_name (i := 3) sc_left.nd rfl (Or.inl rfl)) pgs_nil)))
 (pss_one (ps_if (pt_chain op_le op_le (pv 2) (pv 1) (pv 3))
 (pss_one (ps_ret pe_int))
 pss_nil)))
 (pss_one (ps_ret pe_int))))), ?_⟩
    refine ⟨_, rfl, _, _, rfl, ha.dp, hb.all, by rw [List.length_map]; have := hb.len; omega, fun H1 s1 => ?_⟩
    refine ⟨_, rfl, p, rfl, ?_⟩
    refine ⟨_, rfl, a, hs, rfl, ha.mono s1, hb, fun H2 r s2 nr hr => ?_⟩
    obtain ⟨xs, er, px⟩ := hr
    refine ⟨r, rfl, ⟨xs, SqL.of er⟩, for_list (K := K) (a := r) (xs := xs) (fun i σ H3 => ∃ y2 y3, σ = [some (.ref a), some (.int p), y2, y3] ∧ Same H2 H3 ∧ hasB ((stretches hs).take i) p = false) ⟨none, none, rfl, Same.refl _, rfl⟩ (fun i σ H3 _ hP => ?_) ?_ ?_⟩
    · obtain ⟨_, _, _, s3, _⟩ := hP
      exact SqL.of (s3 _ _ er)
    · rintro i v σ H3 hi ⟨y2, y3, rfl, s3, hf⟩
      obtain ⟨x, hx, pv⟩ := pr_get px hi
      obtain ⟨t, rfl, et⟩ := pv
      refine ⟨t, _, rfl, SqT.of (s3 _ _ et), rfl, _, _, rfl, _, _, rfl, rfl, ?_⟩
      refine if_b (b := decide (x.1 ≤ p) && decide (p ≤ x.2)) (Evl.et_test (ev_chain (Evl.ev_var rfl) (Evl.ev_var rfl) (Evl.ev_var rfl))) (fun e H4 s4 => ?_) (fun e H4 s4 => ?_)
      · have hh : hasB (stretches hs) p = true := by
          rw [Bool.and_eq_true] at e
          exact hasB_iff.mpr ⟨x, List.mem_of_getElem? hx, of_decide_eq_true e.1, of_decide_eq_true e.2⟩
        have := q H4 ((s1.trans s2).trans (s3.trans s4))
        rw [hh] at this
        exact this
      · refine ⟨_, _, rfl, s3.trans s4, ?_⟩
        rw [take_snoc hx, hasB_app, hf, hasB_cons, e]
        rfl
    · rintro σ H3 ⟨y2, y3, rfl, s3, hf⟩
      rw [pr_len px, List.take_length] at hf
      have := q H3 ((s1.trans s2).trans s3)
      rw [hf] at this
      exact this
end
section
variable {K : PySem.W.Frag} {σ : L2.St} {H : Hp} {te ta tb tl : TE}
theorem ev_left {hs : List I2} {p : Int} (h : EvQ ta σ H hs) (hb : HB hs) (h2 : Evl.Ev tb σ H (.int p)) : Evl.Ev (tCall spLeft [] C8.E0 (tCons ta (tCons tb tNil))) σ H (.int (if hasB (stretches hs) p then 1 else 0)) := fun H0 s0 Q q =>
  h H0 s0 _ fun a H1 s1 ha => h2 H1 (Same.trans s0 s1) _ fun H2 s2 => ⟨a, hs, p, rfl, ha.mono s2, hb, fun H3 s3 => q H3 (Same.trans (Same.trans s1 s2) s3)⟩
end
end Wk
/-! the walk, part T: sums, loops that only look, calls as values -/
namespace Wk
open PySem PySem.Spec PyProof.Rows L2 Spr
section
variable {K : PySem.W.Frag} {σ : L2.St} {H : Hp} {te ta tb tl : TE} {t : TT} {tr : TA}
/-- sum([e for a, b in pairs]) -/
theorem ev_sumP0 {m : List I2} {i j : Nat} {vs : List Nat} (f : I2 → Int) (h : EvQ tl σ H m) (hm : m.length ≤ 40000) (hw : ∀ a b, wipe (((wipe σ vs).set i a).set j b) vs = wipe σ vs)
    (he : ∀ x ∈ m, Evl.Ev te (s2 σ vs i j x) H (.int (f x))) : Evl.Ev (tCB (rSum K) (tCons (tLc (iList K tl) (gTup K 2 (gCons (gName i) (gCons (gName j) gNil))) tYes te vs) tNil)) σ H (.int (tot f m)) := by
  unfold tot
  refine ev_sumL ?_
  rw [List.map_map]
  exact el_lcP0 (K := K) (V.int ∘ f) h hm hw he
/-- sum([e for a, b in pairs if t]) -/
theorem ev_sumP {m : List I2} {i j : Nat} {vs : List Nat} (g : I2 → Bool) (f : I2 → Int) (h : EvQ tl σ H m) (hm : m.length ≤ 40000) (hw : ∀ a b, wipe (((wipe σ vs).set i a).set j b) vs = wipe σ vs)
    (ht : ∀ x ∈ m, Evl.EvT t (s2 σ vs i j x) H (g x)) (he : ∀ x ∈ m, g x = true → Evl.Ev te (s2 σ vs i j x) H (.int (f x))) : Evl.Ev (tCB (rSum K) (tCons (tLc (iList K tl) (gTup K 2 (gCons (gName i) (gCons (gName j) gNil))) t te vs) tNil)) σ H (.int (tot f (m.filter g))) := by
  unfold tot
  refine ev_sumL ?_
  rw [List.map_map]
  exact el_lcP (K := K) g (V.int ∘ f) h hm hw ht he
/-- [e for p in pairs], the target a name -/
theorem el_lcN {m : List I2} {i : Nat} {vs : List Nat} (v : I2 → V) (h : EvQ tl σ H m) (hm : m.length ≤ 40000) (hw : ∀ a, wipe ((wipe σ vs).set i a) vs = wipe σ vs)
    (he : ∀ x ∈ m, ∀ pv H1, Same H H1 → PT H1 pv x → Evl.Ev te ((wipe σ vs).set i (some pv)) H1 (v x)) :
    Evl.EvL (tLc (iList K tl) (gName i) tYes te vs) σ H (m.map v) := fun H0 s0 Q q =>
  h H0 s0 _ fun a H1 s1 ha => by
    obtain ⟨xs, ea, px⟩ := ha
    refine ⟨a, rfl, ⟨xs, SqL.of ea⟩, fun D nD => ?_⟩
    refine lc_list (K := K) (a := a) (xs := xs) (fun k H' => Same H1 H' ∧ H' D = some (.lst ((m.take k).map v))) ⟨same_new nD, upd_same⟩ (fun k H' _ p => SqL.of (p.1 _ _ ea)) ?_ ?_
    · rintro k x H' hk ⟨s2', e2⟩
      obtain ⟨y, hy, pv⟩ := pr_get px hk
      have my : y ∈ m := List.mem_of_getElem? hy
      have hkl : k < m.length := (List.getElem?_eq_some_iff.mp hy).1
      refine ⟨hw _, yesT ?_⟩
      refine he y my x H' (Same.trans (Same.trans s0 s1) s2') (pv.mono (same_tp s2')) H' (Evl.Ex.refl _) _ fun H4 s4 => ?_
      refine ⟨_, s4 _ _ e2, ?_, same_mut (Same.trans s2' s4) nD, ?_⟩
      · rw [List.length_map, List.length_take]
        exact Evl.sz_lt (by omega)
      · rw [upd_same, take_snoc hy, List.map_append]
        rfl
    · rintro H' ⟨s2', e2⟩
      rw [pr_len px, List.take_length] at e2
      exact q D H' (Same.free s1 nD) (Same.trans s1 s2') e2
/-- calls -/
theorem ev_whole {i : Int} (h : Evl.Ev te σ H (.int i)) : Evl.Ev (tCall (spWhole K) [] C8.E0 (tCons te tNil)) σ H (.bl true) := fun H0 s0 Q q =>
  h H0 s0 _ fun H1 s1 => ⟨.int i, "int", rfl, .base (.int i), by decide, q H1 s1⟩
/-! ### loops that only look: J of the slots, what stood stands -/
variable {D : Ends} {tu tz : TS}
/-- the ends of a turn: J, and what stood at B stands -/
abbrev tn (J : L2.St → Prop) (B : Hp) (D : Ends) : Ends := { D with nx := fun σ2 H2 => J σ2 ∧ Same B H2, ct := fun σ2 H2 => J σ2 ∧ Same B H2, bk := D.nx }
theorem s_forP {m : List I2} {i j : Nat} (h : EvQ tl σ H m) (J : L2.St → Prop) (h0 : J σ)
    (hs : ∀ x ∈ m, ∀ B σ' H1, Same H B → J σ' → Same B H1 → tu (tn J B D) ((σ'.set i (some (.int x.1))).set j (some (.int x.2))) H1)
    (hd : ∀ σ' H1, J σ' → Same H H1 → D.nx σ' H1) : tFor (iList K tl) (gTup K 2 (gCons (gName i) (gCons (gName j) gNil))) tu D σ H :=
  h H (Same.refl H) _ fun a H1 s1 ha => by
    obtain ⟨xs, ea, px⟩ := ha
    refine ⟨a, rfl, ⟨xs, SqL.of ea⟩, for_list (K := K) (a := a) (xs := xs) (fun k σ' H' => J σ' ∧ Same H1 H') ⟨h0, Same.refl _⟩ (fun k σ' H' _ p => SqL.of (p.2 _ _ ea)) ?_ (fun σ' H' p => hd σ' H' p.1 (Same.trans s1 p.2))⟩
    rintro k x σ' H' hk ⟨jj, s2⟩
    obtain ⟨y, hy, t, rfl, et⟩ := pr_get px hk
    exact ⟨t, _, rfl, SqT.of (s2 _ _ et), rfl, _, _, rfl, _, _, rfl, rfl, hs y (List.mem_of_getElem? hy) H1 σ' H' s1 jj s2⟩
theorem s_forT {xs : List V} {i : Nat} (h : Evl.EvU tl σ H xs) (J : L2.St → Prop) (h0 : J σ)
    (hs : ∀ v ∈ xs, ∀ B σ' H1, Same H B → J σ' → Same B H1 → tu (tn J B D) (σ'.set i (some v)) H1)
    (hd : ∀ σ' H1, J σ' → Same H H1 → D.nx σ' H1) : tFor (iTup K tl) (gName i) tu D σ H :=
  h H (Same.refl H) _ fun a H1 _ s1 ea =>
    ⟨a, rfl, ⟨xs, SqT.of ea⟩, for_tup (K := K) (a := a) (xs := xs) (fun k σ' H' => J σ' ∧ Same H1 H') ⟨h0, Same.refl _⟩ (fun k σ' H' _ p => SqT.of (p.2 _ _ ea)) (fun k x σ' H' hk p => hs x (List.mem_of_getElem? hk) H1 σ' H' s1 p.1 p.2) (fun σ' H' p => hd σ' H' p.1 (Same.trans s1 p.2))⟩
theorem s_forL {xs : List V} {i : Nat} (h : Evl.EvL tl σ H xs) (J : L2.St → Prop) (h0 : J σ)
    (hs : ∀ v ∈ xs, ∀ B σ' H1, Same H B → J σ' → Same B H1 → tu (tn J B D) (σ'.set i (some v)) H1)
    (hd : ∀ σ' H1, J σ' → Same H H1 → D.nx σ' H1) : tFor (iList K tl) (gName i) tu D σ H :=
  h H (Same.refl H) _ fun a H1 _ s1 ea =>
    ⟨a, rfl, ⟨xs, SqL.of ea⟩, for_list (K := K) (a := a) (xs := xs) (fun k σ' H' => J σ' ∧ Same H1 H') ⟨h0, Same.refl _⟩ (fun k σ' H' _ p => SqL.of (p.2 _ _ ea)) (fun k x σ' H' hk p => hs x (List.mem_of_getElem? hk) H1 σ' H' s1 p.1 p.2) (fun σ' H' p => hd σ' H' p.1 (Same.trans s1 p.2))⟩
theorem s_forV {xs : List V} {i a : Addr} {k : Nat} (hk : σ[k]? = some (some (.ref a))) (ea : H a = some (.lst xs)) (J : L2.St → Prop) (h0 : J σ)
    (hs : ∀ v ∈ xs, ∀ B σ' H1, Same H B → J σ' → Same B H1 → tu (tn J B D) (σ'.set i (some v)) H1)
    (hd : ∀ σ' H1, J σ' → Same H H1 → D.nx σ' H1) : tFor (iList K (tVar k)) (gName i) tu D σ H :=
  ⟨.ref a, hk, a, rfl, ⟨xs, SqL.of ea⟩, for_list (K := K) (a := a) (xs := xs) (fun k σ' H' => J σ' ∧ Same H H') ⟨h0, Same.refl _⟩ (fun k σ' H' _ p => SqL.of (p.2 _ _ ea)) (fun k x σ' H' hk p => hs x (List.mem_of_getElem? hk) H σ' H' (Same.refl _) p.1 p.2) (fun σ' H' p => hd σ' H' p.1 p.2)⟩
theorem s_forR {n i : Nat} (hn : n < 1000) (J : L2.St → Prop) (h0 : J σ)
    (hs : ∀ k : Nat, k < n → ∀ B σ' H1, Same H B → J σ' → Same B H1 → tu (tn J B D) (σ'.set i (some (.int (0 + (k : Int))))) H1)
    (hd : ∀ σ' H1, J σ' → Same H H1 → D.nx σ' H1) : tFor (iRng1 (tCons (tC (.int (n : Int))) tNil)) (gName i) tu D σ H :=
  ⟨(n : Int), rfl, by omega, by omega, for_range (lo := 0) (n := (n : Int).toNat) (fun k σ' H' => J σ' ∧ Same H H') ⟨h0, Same.refl _⟩ (fun k σ' H' hk p => hs k (by omega) H σ' H' (Same.refl _) p.1 p.2) (fun σ' H' p => hd σ' H' p.1 p.2)⟩
theorem q_forP {m : List I2} {i j : Nat} (h : EvQ tl σ H m) (J : L2.St → Prop) (h0 : J σ)
    (hs : ∀ x ∈ m, ∀ B σ' H1, Same H B → J σ' → Same B H1 → tu (tn J B { D with nx := tz D }) ((σ'.set i (some (.int x.1))).set j (some (.int x.2))) H1)
    (hd : ∀ σ' H1, J σ' → Same H H1 → tz D σ' H1) : tSeq (tFor (iList K tl) (gTup K 2 (gCons (gName i) (gCons (gName j) gNil))) tu) tz D σ H := s_forP (D := { D with nx := tz D }) h J h0 hs hd
theorem q_forT {xs : List V} {i : Nat} (h : Evl.EvU tl σ H xs) (J : L2.St → Prop) (h0 : J σ)
    (hs : ∀ v ∈ xs, ∀ B σ' H1, Same H B → J σ' → Same B H1 → tu (tn J B { D with nx := tz D }) (σ'.set i (some v)) H1)
    (hd : ∀ σ' H1, J σ' → Same H H1 → tz D σ' H1) : tSeq (tFor (iTup K tl) (gName i) tu) tz D σ H := s_forT (D := { D with nx := tz D }) h J h0 hs hd
theorem q_forL {xs : List V} {i : Nat} (h : Evl.EvL tl σ H xs) (J : L2.St → Prop) (h0 : J σ)
    (hs : ∀ v ∈ xs, ∀ B σ' H1, Same H B → J σ' → Same B H1 → tu (tn J B { D with nx := tz D }) (σ'.set i (some v)) H1)
    (hd : ∀ σ' H1, J σ' → Same H H1 → tz D σ' H1) : tSeq (tFor (iList K tl) (gName i) tu) tz D σ H := s_forL (D := { D with nx := tz D }) h J h0 hs hd
theorem q_forV {xs : List V} {i a : Addr} {k : Nat} (hk : σ[k]? = some (some (.ref a))) (ea : H a = some (.lst xs)) (J : L2.St → Prop) (h0 : J σ)
    (hs : ∀ v ∈ xs, ∀ B σ' H1, Same H B → J σ' → Same B H1 → tu (tn J B { D with nx := tz D }) (σ'.set i (some v)) H1)
    (hd : ∀ σ' H1, J σ' → Same H H1 → tz D σ' H1) : tSeq (tFor (iList K (tVar k)) (gName i) tu) tz D σ H := s_forV (D := { D with nx := tz D }) hk ea J h0 hs hd
theorem q_forR {n i : Nat} (hn : n < 1000) (J : L2.St → Prop) (h0 : J σ)
    (hs : ∀ k : Nat, k < n → ∀ B σ' H1, Same H B → J σ' → Same B H1 → tu (tn J B { D with nx := tz D }) (σ'.set i (some (.int (0 + (k : Int))))) H1)
    (hd : ∀ σ' H1, J σ' → Same H H1 → tz D σ' H1) : tSeq (tFor (iRng1 (tCons (tC (.int (n : Int))) tNil)) (gName i) tu) tz D σ H := s_forR (D := { D with nx := tz D }) hn J h0 hs hd
/-- for m in (list, list, list) -/
theorem q_forN3 {t1 t2 t3 : TE} {m1 m2 m3 : List I2} {i : Nat} (h1 : EvN t1 σ H m1) (h2 : EvN t2 σ H m2) (h3 : EvN t3 σ H m3) (J : L2.St → Prop) (h0 : J σ)
    (hs : ∀ m ∈ [m1, m2, m3], ∀ p B σ' H1, Same H B → PL B p m → J σ' → Same B H1 → tu (tn J B { D with nx := tz D }) (σ'.set i (some (.ref p))) H1)
    (hd : ∀ σ' H1, J σ' → Same H H1 → tz D σ' H1) : tSeq (tFor (iTup K (tTup (tCons t1 (tCons t2 (tCons t3 tNil))))) (gName i) tu) tz D σ H :=
  h1 H (Same.refl H) _ fun p1 H1 _ s1 hp1 => h2 H1 s1 _ fun p2 H2 _ s2 hp2 => h3 H2 (Same.trans s1 s2) _ fun p3 H3 _ s3 hp3 => ⟨(by show 3 ≤ sizeLine; decide), fun t nt => by
    have s4 := same_new (o := .tup [.ref p1, .ref p2, .ref p3]) nt
    have s04 : Same H (upd H3 t (.tup [.ref p1, .ref p2, .ref p3])) := Same.trans (Same.trans (Same.trans s1 s2) s3) s4
    refine ⟨t, rfl, ⟨_, SqT.of upd_same⟩, for_tup (K := K) (a := t) (xs := [.ref p1, .ref p2, .ref p3]) (fun k σ' H' => J σ' ∧ Same (upd H3 t (.tup [.ref p1, .ref p2, .ref p3])) H') ⟨h0, Same.refl _⟩ (fun k σ' H' _ p => SqT.of (p.2 _ _ upd_same)) (fun k x σ' H' hk p => ?_) (fun σ' H' p => hd σ' H' p.1 (Same.trans s04 p.2))⟩
    have hx : ∃ m ∈ [m1, m2, m3], ∃ q, x = .ref q ∧ PL (upd H3 t (.tup [.ref p1, .ref p2, .ref p3])) q m := by
      match k, hk with
      | 0, hk => cases hk; exact ⟨m1, by simp, p1, rfl, hp1.mono ((Same.trans s2 s3).trans s4)⟩
      | 1, hk => cases hk; exact ⟨m2, by simp, p2, rfl, hp2.mono (Same.trans s3 s4)⟩
      | 2, hk => cases hk; exact ⟨m3, by simp, p3, rfl, hp3.mono s4⟩
    obtain ⟨m, mm, q, rfl, hq⟩ := hx
    exact hs m mm q _ σ' H' s04 hq p.1 p.2⟩
end
end Wk
/-! the walk, part G: squares_to, gave, all_gave -/
namespace Wk
open PySem PySem.Spec PyProof.Rows L2 Spr
theorem wd2 : Wd 2 2 := by unfold Wd; decide
section
variable {P : Program} {w : World} {K : PySem.W.Frag} {mg : Str → Option Value} {base : Heap}
def spSq : Sp := fun vs H Q _ => ∃ p : Int, vs = [.int p] ∧ Wd 710 p ∧ Q (.int (sqs p)) H
theorem cal_squares_to (T : Top K mg) : C8.Cal P w K mg base 1 "squares_to" spSq [] := by
  refine T.d_squares_to.cal sc_squares_to (fun vs H Q E h => ?_) (fun f cdv A outer s H vs Q E hr h => ?_)
  · obtain ⟨p, rfl, _⟩ := h
    rfl
  · obtain ⟨p, rfl, wp, q⟩ := h
    refine ⟨_, (pss_one (ps_ret (pe_op op_fdiv (pe_op op_mulW (pe_op op_mulW (pv 0) (pe_op op_add (pv 0) pe_int)) (pe_op op_add (pe_op op_mulW pe_int (pv 0)) pe_int)) pe_int))), ?_⟩
    have w1 : Wd 712 (p + 1) := wp.add wd1
    have w2 : Wd 1422 (p * (p + 1)) := wp.mul w1
    have w3 : Wd 712 (2 * p) := wd2.mul wp
    have w4 : Wd 714 (2 * p + 1) := w3.add wd1
    exact ⟨_, rfl, _, rfl, _, _, rfl, rfl, _, _, rfl, rfl, wp.cmul w1, _, rfl, _, _, rfl, rfl, wd2.cmul wp, _, _, rfl, rfl, _, _, rfl, rfl, w2.cmul w4, _, _, rfl, rfl, ⟨by decide, by decide⟩, q⟩
def spGave : Sp := fun vs H Q _ => ∃ (a : Addr) (hs : List I2) (p : Int), vs = [.ref a, .int p] ∧ PL H a hs ∧ HB hs ∧ Wd 800 p ∧ ∀ H', Same H H' → Q (.int (gaveI hs p)) H'
theorem end_wd {l p : Int} (hl : Wd 700 l) (hp : Wd 802 (p - 1)) : Wd 802 (endI l p) := by
  unfold endI
  split
  · exact hp
  · exact hl.mono (by decide)
theorem cal_gave (T : Top K mg) : C8.Cal P w K mg base 4 "gave" spGave [] := by
  have c_stretches_of : C8.Cal P w K mg base 3 "stretches_of" spStr [] := cal_stretches_of T
  have c_check_heaps : C8.Cal P w K mg base 3 "check_heaps" (spCheck K) [] := cal_check_heaps T
  have c_check_place : C8.Cal P w K mg base 2 "check_place" spPlace [] := cal_check_place T
  refine T.d_gave.cal sc_gave (fun vs H Q E h => ?_) (fun f cdv A outer s H vs Q E hr h => ?_)
  · obtain ⟨a, hs, p, rfl, _⟩ := h
    rfl
  · obtain ⟨a, hs, p, rfl, ha, hb, wp, q⟩ := h
    refine ⟨_, (pss_cons (ps_expr (C8.pe_c c_check_heaps hr (by decide) (by rfl) (pa_cons (pv 0) pa_nil)))
 (pss_cons (ps_expr (C8.pe_c c_check_place hr (by decide) (by rfl) (pa_cons (pv 1) pa_nil)))
 (pss_cons (ps_set (i := 2) sc_gave.nd rfl (Or.inl rfl) pe_int)
 (pss_cons (ps_for PassesOwn.never rfl (pi_list (C8.pe_c c_stretches_of hr (by decide) (by rfl) (pa_cons (pv 0) pa_nil))) (pg_tup rfl (pgs_cons (pg_name (i := 3) sc_gave.nd rfl (Or.inl rfl)) (pgs_cons (pg_name (i := 4) sc_gave.nd rfl (Or.inl rfl)) pgs_nil)))
 (pss_cons (ps_set (i := 5) sc_gave.nd rfl (Or.inl rfl) (pe_callB (call_min2 rfl) (by rfl) T.m_min (by decide +kernel) (pa_cons (pv 4) (pa_cons (pe_op op_sub (pv 1) pe_int) pa_nil))))
 (pss_one (ps_if (pt_cmpR op_le (pv 3) (pv 5) (nomark _))
 (pss_cons (ps_set (i := 6) sc_gave.nd rfl (Or.inl rfl) (pe_op op_add (pe_op op_sub (pv 5) (pv 3)) pe_int))
 (pss_one (ps_aug (i := 2) sc_gave.nd rfl (Or.inl rfl) (pe_op op_sub (pe_op op_mulW (pv 6) (pv 1)) (pe_op op_fdiv (pe_op op_mulW (pv 6) (pe_op op_add (pv 3) (pv 5))) pe_int)) ip_add)))
 pss_nil))))
 (pss_cons (ps_for PassesOwn.never rfl (pi_list (pv 0)) (pg_tup rfl (pgs_cons (pg_name (i := 7) sc_gave.nd rfl (Or.inl rfl)) (pgs_cons (pg_name (i := 8) sc_gave.nd rfl (Or.inl rfl)) pgs_nil)))
 (pss_one (ps_if (pt_cmpR op_lt (pv 7) (pv 1) (nomark _))
 (pss_one (ps_aug (i := 2) sc_gave.nd rfl (Or.inl rfl) (pe_op op_mulW (pe_op op_sub (pv 1) (pv 7)) (pv 8)) ip_sub))
 pss_nil)))
 (pss_one (ps_ret (pv 2)))))))), ?_⟩
    refine ⟨_, rfl, _, _, rfl, ha.dp, hb.all, by rw [List.length_map]; have := hb.len; omega, fun H1 s1 => ?_⟩
    refine ⟨_, rfl, p, rfl, ?_⟩
    refine ⟨_, rfl, a, hs, rfl, ha.mono s1, hb, fun H2 r s2 nr hr => ?_⟩
    obtain ⟨xs, er, px⟩ := hr
    have wp1 : Wd 802 (p - 1) := wp.sub wd1
    refine ⟨r, rfl, ⟨xs, SqL.of er⟩, for_list (K := K) (a := r) (xs := xs) (fun i σ H3 => ∃ y3 y4 y5 y6, σ = [some (.ref a), some (.int p), some (.int (spot ((stretches hs).take i) p)), y3, y4, y5, y6, none, none] ∧ Same H2 H3) ⟨none, none, none, none, rfl, Same.refl _⟩ (fun i σ H3 _ hP => ?_) ?_ ?_⟩
    · obtain ⟨_, _, _, _, _, s3⟩ := hP
      exact SqL.of (s3 _ _ er)
    · rintro i v σ H3 hi ⟨y3, y4, y5, y6, rfl, s3⟩
      obtain ⟨x, hx, t, rfl, et⟩ := pr_get px hi
      have mx := List.mem_of_getElem? hx
      obtain ⟨w1, w2⟩ := stretches_wd hb x mx
      have hle := (stretches_ok hb.pos).1.le x mx
      rw [take_snoc hx, spot_snoc, ← ivc_is hle]
      show gTup K 2 _ _ _ _ _
      have we := end_wd w2 wp1
      refine ⟨t, _, rfl, SqT.of (s3 _ _ et), rfl, _, _, rfl, _, _, rfl, rfl, ?_⟩
      -- end
      refine ⟨_, rfl, _, rfl, _, _, rfl, rfl, x.2, p - 1, rfl, ?_⟩
      refine ⟨_, rfl, _, rfl, x.1, endI x.2 p, rfl, rfl, _, rfl, ite2 (fun c => ?_) (fun c => ?_)⟩
      · have c : x.1 ≤ endI x.2 p := of_decide_eq_true c
        have e : ivc x.1 x.2 p = (endI x.2 p - x.1 + 1) * p - (endI x.2 p - x.1 + 1) * (x.1 + endI x.2 p) / 2 := if_pos c
        rw [e]
        have wm : Wd 1505 (endI x.2 p - x.1 + 1) := (we.sub w1).add wd1
        have wf : Wd 1503 (x.1 + endI x.2 p) := w1.add we
        refine ⟨_, rfl, _, rfl, endI x.2 p, x.1, rfl, rfl, _, _, rfl, rfl, ?_⟩
        refine ⟨_, rfl, _, rfl, _, rfl, endI x.2 p - x.1 + 1, p, rfl, rfl, wm.cmul wp, _, rfl, _, rfl, _, rfl, x.1, endI x.2 p, rfl, rfl, endI x.2 p - x.1 + 1, x.1 + endI x.2 p, rfl, rfl, wm.cmul wf, _, _, rfl, rfl, ⟨by decide, by decide⟩, _, _, rfl, rfl, _, _, rfl, rfl, ?_⟩
        exact ⟨_, _, _, _, rfl, s3⟩
      · have c : ¬ x.1 ≤ endI x.2 p := fun z => c (decide_eq_true z)
        have e : ivc x.1 x.2 p = 0 := if_neg c
        rw [e, Int.add_zero]
        exact ⟨_, _, _, _, rfl, s3⟩
    · rintro σ H3 ⟨y3, y4, y5, y6, rfl, s3⟩
      rw [pr_len px, List.take_length]
      have s03 := (s1.trans s2).trans s3
      obtain ⟨ys, ea, py⟩ := ha.mono s03
      refine ⟨_, rfl, a, rfl, ⟨ys, SqL.of ea⟩, for_list (K := K) (a := a) (xs := ys) (fun i σ H4 => ∃ y7 y8, σ = [some (.ref a), some (.int p), some (.int (spot (stretches hs) p - hpot (hs.take i) p)), y3, y4, y5, y6, y7, y8] ∧ Same H3 H4) ⟨none, none, ?_, Same.refl _⟩ (fun i σ H4 _ hP => ?_) ?_ ?_⟩
      · have : spot (stretches hs) p - hpot (hs.take 0) p = spot (stretches hs) p := by
          show spot (stretches hs) p - 0 = _
          omega
        rw [this]
      · obtain ⟨_, _, _, s4⟩ := hP
        exact SqL.of (s4 _ _ ea)
      · rintro i v σ H4 hi ⟨y7, y8, rfl, s4⟩
        obtain ⟨x, hx, t, rfl, et⟩ := pr_get py hi
        have mx := List.mem_of_getElem? hx
        rw [take_snoc hx, hpot_snoc, ← chipc_is]
        show gTup K 2 _ _ _ _ _
        refine ⟨t, _, rfl, SqT.of (s4 _ _ et), rfl, _, _, rfl, _, _, rfl, rfl, ?_⟩
        refine ⟨_, rfl, _, rfl, x.1, p, rfl, rfl, _, rfl, ite2 (fun c => ?_) (fun c => ?_)⟩
        · have c : x.1 < p := of_decide_eq_true c
          have e : chipc x.1 p x.2 = (p - x.1) * x.2 := if_pos c
          rw [e, ← Int.sub_sub]
          refine ⟨_, rfl, _, rfl, _, rfl, p, x.1, rfl, rfl, _, rfl, p - x.1, x.2, rfl, rfl, (wp.sub (show Wd 200 x.1 from hb.w1 x mx)).cmul (show Wd 200 x.2 from hb.w2 x mx), _, _, rfl, rfl, ?_⟩
          exact ⟨_, _, rfl, s4⟩
        · have c : ¬ x.1 < p := fun z => c (decide_eq_true z)
          have e : chipc x.1 p x.2 = 0 := if_neg c
          rw [e, Int.add_zero]
          exact ⟨_, _, rfl, s4⟩
      · rintro σ H4 ⟨y7, y8, rfl, s4⟩
        rw [pr_len py, List.take_length]
        exact ⟨_, rfl, q H4 (s03.trans s4)⟩
def spAll : Sp := fun vs H Q _ => ∃ (a : Addr) (hs : List I2), vs = [.ref a] ∧ PL H a hs ∧ HB hs ∧ ∀ H', Same H H' → Q (.int (allI hs)) H'
theorem cal_all_gave (T : Top K mg) : C8.Cal P w K mg base 4 "all_gave" spAll [] := by
  have c_stretches_of : C8.Cal P w K mg base 3 "stretches_of" spStr [] := cal_stretches_of T
  have c_check_heaps : C8.Cal P w K mg base 3 "check_heaps" (spCheck K) [] := cal_check_heaps T
  have c_squares_to : C8.Cal P w K mg base 1 "squares_to" spSq [] := cal_squares_to T
  refine T.d_all_gave.cal sc_all_gave (fun vs H Q E h => ?_) (fun f cdv A outer s H vs Q E hr h => ?_)
  · obtain ⟨a, hs, rfl, _⟩ := h
    rfl
  · obtain ⟨a, hs, rfl, ha, hb, q⟩ := h
    refine ⟨_, (pss_cons (ps_expr (C8.pe_c c_check_heaps hr (by decide) (by rfl) (pa_cons (pv 0) pa_nil)))
 (pss_cons (ps_set (i := 1) sc_all_gave.nd rfl (Or.inl rfl) pe_int)
 (pss_cons (ps_for PassesOwn.never rfl (pi_list (C8.pe_c c_stretches_of hr (by decide) (by rfl) (pa_cons (pv 0) pa_nil))) (pg_tup rfl (pgs_cons (pg_name (i := 2) sc_all_gave.nd rfl (Or.inl rfl)) (pgs_cons (pg_name (i := 3) sc_all_gave.nd rfl (Or.inl rfl)) pgs_nil)))
 (pss_one (ps_aug (i := 1) sc_all_gave.nd rfl (Or.inl rfl) (pe_op op_sub (C8.pe_c c_squares_to hr (by decide) (by rfl) (pa_cons (pv 3) pa_nil)) (C8.pe_c c_squares_to hr (by decide) (by rfl) (pa_cons (pe_op op_sub (pv 2) pe_int) pa_nil))) ip_add)))
 (pss_cons (ps_for PassesOwn.never rfl (pi_list (pv 0)) (pg_tup rfl (pgs_cons (pg_name (i := 4) sc_all_gave.nd rfl (Or.inl rfl)) (pgs_cons (pg_name (i := 5) sc_all_gave.nd rfl (Or.inl rfl)) pgs_nil)))
 (pss_one (ps_aug (i := 1) sc_all_gave.nd rfl (Or.inl rfl) (pe_op op_mulW (pe_op op_mulW (pv 4) (pv 4)) (pv 5)) ip_sub)))
 (pss_one (ps_ret (pe_op op_fdiv (pv 1) pe_int))))))), ?_⟩
    refine ⟨_, rfl, _, _, rfl, ha.dp, hb.all, by rw [List.length_map]; have := hb.len; omega, fun H1 s1 => ?_⟩
    refine ⟨_, rfl, a, hs, rfl, ha.mono s1, hb, fun H2 r s2 nr hr => ?_⟩
    obtain ⟨xs, er, px⟩ := hr
    refine ⟨r, rfl, ⟨xs, SqL.of er⟩, for_list (K := K) (a := r) (xs := xs) (fun i σ H3 => ∃ y2 y3, σ = [some (.ref a), some (.int (tot sqS ((stretches hs).take i))), y2, y3, none, none] ∧ Same H2 H3) ⟨none, none, rfl, Same.refl _⟩ (fun i σ H3 _ hP => ?_) ?_ ?_⟩
    · obtain ⟨_, _, _, s3⟩ := hP
      exact SqL.of (s3 _ _ er)
    · rintro i v σ H3 hi ⟨y2, y3, rfl, s3⟩
      obtain ⟨x, hx, t, rfl, et⟩ := pr_get px hi
      have mx := List.mem_of_getElem? hx
      obtain ⟨w1, w2⟩ := stretches_wd hb x mx
      rw [take_snoc hx, tot_app, tot_cons, tot_nil, Int.add_zero]
      show gTup K 2 _ _ _ _ _
      refine ⟨t, _, rfl, SqT.of (s3 _ _ et), rfl, _, _, rfl, _, _, rfl, rfl, ?_⟩
      refine ⟨_, rfl, _, rfl, x.2, rfl, w2.mono (by decide), _, rfl, _, _, rfl, rfl, x.1 - 1, rfl, (w1.sub wd1).mono (by decide), _, _, rfl, rfl, _, _, rfl, rfl, ?_⟩
      exact ⟨_, _, rfl, s3⟩
    · rintro σ H3 ⟨y2, y3, rfl, s3⟩
      rw [pr_len px, List.take_length]
      have s03 := (s1.trans s2).trans s3
      obtain ⟨ys, ea, py⟩ := ha.mono s03
      refine ⟨_, rfl, a, rfl, ⟨ys, SqL.of ea⟩, for_list (K := K) (a := a) (xs := ys) (fun i σ H4 => ∃ y4 y5, σ = [some (.ref a), some (.int (tot sqS (stretches hs) - tot sqH (hs.take i))), y2, y3, y4, y5] ∧ Same H3 H4) ⟨none, none, ?_, Same.refl _⟩ (fun i σ H4 _ hP => ?_) ?_ ?_⟩
      · rw [List.take_zero, tot_nil, Int.sub_zero]
      · obtain ⟨_, _, _, s4⟩ := hP
        exact SqL.of (s4 _ _ ea)
      · rintro i v σ H4 hi ⟨y4, y5, rfl, s4⟩
        obtain ⟨x, hx, t, rfl, et⟩ := pr_get py hi
        have mx := List.mem_of_getElem? hx
        have w1 : Wd 200 x.1 := hb.w1 x mx
        have w2 : Wd 200 x.2 := hb.w2 x mx
        rw [take_snoc hx, tot_app, tot_cons, tot_nil, Int.add_zero, ← Int.sub_sub]
        show gTup K 2 _ _ _ _ _
        refine ⟨t, _, rfl, SqT.of (s4 _ _ et), rfl, _, _, rfl, _, _, rfl, rfl, ?_⟩
        refine ⟨_, rfl, _, rfl, _, rfl, x.1, x.1, rfl, rfl, w1.cmul w1, _, rfl, x.1 * x.1, x.2, rfl, rfl, (w1.mul w1).cmul w2, _, _, rfl, rfl, ?_⟩
        exact ⟨_, _, rfl, s4⟩
      · rintro σ H4 ⟨y4, y5, rfl, s4⟩
        rw [pr_len py, List.take_length]
        exact ⟨_, rfl, _, _, rfl, rfl, ⟨by decide, by decide⟩, q H4 (s03.trans s4)⟩
end
section
variable {K : PySem.W.Frag} {σ : L2.St} {H : Hp} {te ta tb tl : TE}
theorem ev_gave {hs : List I2} {p : Int} (h : EvQ ta σ H hs) (hb : HB hs) (wp : Wd 800 p) (h2 : Evl.Ev tb σ H (.int p)) : Evl.Ev (tCall spGave [] C8.E0 (tCons ta (tCons tb tNil))) σ H (.int (gaveI hs p)) := fun H0 s0 Q q =>
  h H0 s0 _ fun a H1 s1 ha => h2 H1 (Same.trans s0 s1) _ fun H2 s2 => ⟨a, hs, p, rfl, ha.mono s2, hb, wp, fun H3 s3 => q H3 (Same.trans (Same.trans s1 s2) s3)⟩
theorem ev_all {hs : List I2} (h : EvQ ta σ H hs) (hb : HB hs) : Evl.Ev (tCall spAll [] C8.E0 (tCons ta tNil)) σ H (.int (allI hs)) := fun H0 s0 Q q =>
  h H0 s0 _ fun a H1 s1 ha => ⟨a, hs, rfl, ha, hb, fun H3 s3 => q H3 (Same.trans s1 s3)⟩
end
end Wk
/-! the walk, part I: lists of values that only look on -/
namespace Wk
open PySem PySem.Spec PyProof.Rows L2 Spr
section
variable {K : PySem.W.Frag} {σ : L2.St} {H : Hp} {te ta tb tl : TE} {t : TT}
/-- a list of such values -/
def EvI (te : TE) (σ : L2.St) (H : Hp) (xs : List V) : Prop := ∀ H1, Same H H1 → ∀ Q : VK, (∀ p H2, Same H1 H2 → H2 p = some (.lst xs) → Q (.ref p) H2) → te σ H1 Q
theorem evi_of {xs : List V} (h : Evl.EvL te σ H xs) : EvI te σ H xs := fun H1 s Q k => h H1 s Q fun p H2 _ s2 hp => k p H2 s2 hp
theorem evi_var {i : Nat} {a : Addr} {xs : List V} (h : σ[i]? = some (some (.ref a))) (p : H a = some (.lst xs)) : EvI (tVar i) σ H xs := fun H1 s Q k => ⟨.ref a, h, k a H1 (Same.refl H1) (s _ _ p)⟩
theorem el_cat {xs ys : List V} (h1 : EvI ta σ H xs) (h2 : EvI tb σ H ys) (hl : xs.length + ys.length ≤ 100000) : Evl.EvL (tOp rCat ta tb) σ H (xs ++ ys) := fun H1 s Q k =>
  h1 H1 s _ fun p1 H2 s2 hp1 => h2 H2 (Same.trans s s2) _ fun p2 H3 s3 hp2 =>
    ⟨p1, p2, xs, ys, rfl, rfl, s3 _ _ hp1, hp2, Evl.sz_of hl, fun p np => k p _ (Same.free (Same.trans s2 s3) np) (Same.trans (Same.trans s2 s3) (same_new np)) upd_same⟩
theorem ev_ixI {xs : List V} {i : Int} {v : V} (h : EvI te σ H xs) (h2 : Evl.Ev tb σ H (.int i)) (hv : atI xs i = some v) : Evl.Ev (tOp (rIxL K) te tb) σ H v := fun H1 s Q k =>
  h H1 s _ fun p H2 s2 hp => h2 H2 (Same.trans s s2) _ fun H3 s3 => ⟨p, xs, i, v, rfl, rfl, SqL.of (s3 _ _ hp), hv, k H3 (Same.trans s2 s3)⟩
/-- [e for x in list], [e for x in tuple] -/
theorem el_lcI {xs : List V} {i : Nat} {vs : List Nat} (v : V → V) (h : EvI tl σ H xs) (hm : xs.length ≤ 40000) (hw : ∀ a, wipe ((wipe σ vs).set i a) vs = wipe σ vs)
    (he : ∀ x ∈ xs, Evl.Ev te ((wipe σ vs).set i (some x)) H (v x)) : Evl.EvL (tLc (iList K tl) (gName i) tYes te vs) σ H (xs.map v) := fun H0 s0 Q q =>
  h H0 s0 _ fun a H1 s1 ea => ⟨a, rfl, ⟨xs, SqL.of ea⟩, fun D nD =>
    lc_list (K := K) (a := a) (xs := xs) (fun k H' => Same H1 H' ∧ H' D = some (.lst ((xs.take k).map v))) ⟨same_new nD, upd_same⟩ (fun k H' _ p => SqL.of (p.1 _ _ ea))
      (fun k x H' hk p => ⟨hw _, yesT (he x (List.mem_of_getElem? hk) H' (Same.trans (Same.trans s0 s1) p.1) _ fun H4 s4 => ⟨_, s4 _ _ p.2, by
        rw [List.length_map, List.length_take]
        exact Evl.sz_lt (by omega), same_mut (Same.trans p.1 s4) nD, by
        rw [upd_same, take_snoc hk, List.map_append]
        rfl⟩)⟩)
      (fun H' p => q D H' (Same.free s1 nD) (Same.trans s1 p.1) (by
        have := p.2
        rw [List.take_length] at this
        exact this))⟩
theorem el_lcT {xs : List V} {i : Nat} {vs : List Nat} (v : V → V) (h : Evl.EvU tl σ H xs) (hm : xs.length ≤ 40000) (hw : ∀ a, wipe ((wipe σ vs).set i a) vs = wipe σ vs)
    (he : ∀ x ∈ xs, Evl.Ev te ((wipe σ vs).set i (some x)) H (v x)) : Evl.EvL (tLc (iTup K tl) (gName i) tYes te vs) σ H (xs.map v) := fun H0 s0 Q q =>
  h H0 s0 _ fun a H1 _ s1 ea => ⟨a, rfl, ⟨xs, SqT.of ea⟩, fun D nD =>
    lc_tup (K := K) (a := a) (xs := xs) (fun k H' => Same H1 H' ∧ H' D = some (.lst ((xs.take k).map v))) ⟨same_new nD, upd_same⟩ (fun k H' _ p => SqT.of (p.1 _ _ ea))
      (fun k x H' hk p => ⟨hw _, yesT (he x (List.mem_of_getElem? hk) H' (Same.trans (Same.trans s0 s1) p.1) _ fun H4 s4 => ⟨_, s4 _ _ p.2, by
        rw [List.length_map, List.length_take]
        exact Evl.sz_lt (by omega), same_mut (Same.trans p.1 s4) nD, by
        rw [upd_same, take_snoc hk, List.map_append]
        rfl⟩)⟩)
      (fun H' p => q D H' (Same.free s1 nD) (Same.trans s1 p.1) (by
        have := p.2
        rw [List.take_length] at this
        exact this))⟩
/-- x = a op b, laid open -/
theorem peel_op {r : R2} {i : Nat} {tz : TS} {D : Ends} (h : ta σ H fun x H1 => tb σ H1 fun y H2 => r x y H2 fun v H3 => tz D (σ.set i (some v)) H3) : tSeq (tAsg (tOp r ta tb) (gName i)) tz D σ H := h
end
end Wk
/-! the walk, part V: tables of places (dicts of ints), max(dict), list.remove -/
namespace Wk
open PySem PySem.Spec PyProof.Rows L2 Spr
section
variable {X : Cx}
def rMaxK : List V → Hp → VK → Prop := fun vs H Q => ∃ (a : Addr) (kvs : List (Key × V)) (is : List Int), vs = [V.ref a] ∧ H a = some (.dK kvs) ∧ kvs.map (·.1) = is.map Sum.inl ∧ is ≠ [] ∧ ∀ m, m ∈ is → (∀ j ∈ is, j ≤ m) → Q (.int m) H
theorem cr_maxK (hc : X.calm = true) : CallR X (.builtin "max") rMaxK := by
  intro pins s σ H vs us Q I r h
  obtain ⟨a, kvs, is, rfl, ha, hv, hne, q⟩ := h
  rw [Vals.ref1 r]
  obtain ⟨_, hsys, vs, rel, dof⟩ := dk_of I.hok ha
  obtain ⟨ep, dat⟩ := dof.dictAt
  obtain ⟨ob, es, ho, hex, hdat, hko, hpr, hnd⟩ := id dat
  have hlt : a < s.heap.objs.size := Heap.lt_size ho
  have hkeys : vs.map (·.1) = is.map Sum.inl := (KV.keys rel).symm.trans hv
  have hlv : vs.length = is.length := by
    have e1 := congrArg List.length hkeys
    rw [List.length_map, List.length_map] at e1
    exact e1
  have hlen : 0 < vs.length := by
    rw [hlv]
    exact List.length_pos_iff.mpr hne
  have hval : ∀ (i : Nat) (v : Value), (∃ k x, vs[i]? = some (k, x) ∧ (mixKind X.prog X.w).is k v = true) → ∃ t, v = Value.int (is.getD i 0) t := fun i v ⟨k, x, hk, hkey⟩ => by
    have e1 : (vs.map (·.1))[i]? = some k := by rw [List.getElem?_map, hk] <;> rfl
    rw [hkeys, List.getElem?_map] at e1
    obtain ⟨j, hj, e2⟩ := Option.map_eq_some_iff.mp e1
    subst e2
    have hi : Value.isInt j v = true := hkey
    obtain ⟨t, e3⟩ := Value.isInt_shape (k := j) (v := v) hi
    refine ⟨t, ?_⟩
    rw [e3, List.getD_eq_getElem?_getD, hj] <;> rfl
  refine call_max_walk (wpAny_pyIter_dict (knd := mixKind X.prog X.w) hsys dat ?_)
  refine ⟨_, _, _, _, _, _, _, rfl, Walks.dictKeys (knd := mixKind X.prog X.w) (A := X.A.in1) (I.ok.hd hc) s.heap.objs.size a (Nat.ne_of_lt hlt) vs ep,
    ⟨⟨_, Heap.get?_push_size _ rfl, rfl, rfl⟩, dat.keep fun b u e => Heap.get?_push_of_some _ e⟩, fun b hb => ?_, hlen, CmpOf.ints_gt (fun i => is.getD i 0) hval, fun v h' tk hP hk => ?_⟩
  · show b < (s.heap.push _).objs.size
    rw [Heap.size_push]
    rcases List.mem_cons.mp hb with e | hb
    · rw [e]
      exact Nat.lt_succ_self _
    · rw [List.mem_singleton.mp hb]
      exact Nat.lt_succ_of_lt hlt
  · obtain ⟨t, rfl⟩ := hval _ v hP
    obtain ⟨b1, b2⟩ := argBest_gt (fun i => is.getD i 0) (vs.length - 1)
    refine ⟨.int _, H, I.kept (t' := tk) fun b u e => hk b u (fun hmem => ?_) (Heap.get?_push_of_some _ e), ⟨t, rfl⟩, q _ ?_ fun j hj => ?_⟩
    · have e1 : b = s.heap.objs.size := List.mem_singleton.mp hmem
      have e2 := Heap.lt_size e
      rw [e1] at e2
      exact absurd e2 (Nat.lt_irrefl _)
    · have hb : argBest (fun i j => decide (is.getD i 0 > is.getD j 0)) (vs.length - 1) < is.length := by omega
      rw [List.getD_eq_getElem?_getD, List.getElem?_eq_getElem hb]
      exact List.getElem_mem hb
    · obtain ⟨i, hi, e⟩ := List.mem_iff_getElem.mp hj
      have e2 : is.getD i 0 = j := by rw [List.getD_eq_getElem?_getD, List.getElem?_eq_getElem hi, ← e] <;> rfl
      rw [← e2]
      exact b2 i (by omega)
end
/-! ### tables -/
def ent (h : I2) : Key × V := (.inl h.1, .int h.2)
theorem valV_ent (l : List I2) (p : Int) : valV (l.map ent) (.inl p) = (getI l p).map V.int := by
  induction l with
  | nil => rfl
  | cons x l ih =>
    rw [List.map_cons]
    unfold getI
    by_cases c : x.1 = p
    · rw [valV_pos (p := ent x) (show (Sum.inl x.1 : Key) = .inl p by rw [c]), List.find?_cons_of_pos (by simpa using c)]
      rfl
    · rw [valV_neg (p := ent x) (fun z => c (Sum.inl.inj z)), List.find?_cons_of_neg (by simpa using c), ih]
      rfl
theorem putK_ent (l : List I2) (p c : Int) : putK (l.map ent) (.inl p) (.int c) = (putI l p c).map ent := by
  unfold putK putI
  have e : ((l.map ent).any fun kv => decide (kv.1 = .inl p)) = l.any fun h => decide (h.1 = p) := by
    rw [List.any_map]
    congr 1
    funext x
    show decide ((Sum.inl x.1 : Key) = .inl p) = decide (x.1 = p)
    by_cases c : x.1 = p
    · rw [decide_eq_true c, decide_eq_true (congrArg Sum.inl c)]
    · rw [decide_eq_false c, decide_eq_false fun z => c (Sum.inl.inj z)]
  rw [e]
  split
  · rw [List.map_map, List.map_map]
    refine List.map_congr_left fun x _ => ?_
    show (if (Sum.inl x.1 : Key) = .inl p then ((Sum.inl x.1 : Key), V.int c) else ent x) = ent (if x.1 = p then (x.1, c) else x)
    by_cases c : x.1 = p
    · rw [if_pos c, if_pos (congrArg Sum.inl c)]; rfl
    · rw [if_neg c, if_neg fun z => c (Sum.inl.inj z)]
  · rw [List.map_append]
    rfl
theorem ent_keys (l : List I2) : (l.map ent).map (·.1) = (keysI l).map Sum.inl := by
  unfold keysI
  rw [List.map_map, List.map_map]
  rfl
section
variable {K : PySem.W.Frag} {σ : L2.St} {H : Hp} {te ta tb tl : TE}
/-- d.get(e, 0) -/
theorem ev_dget2 {i : Nat} {a : Addr} {l : List I2} {p : Int} (hi : σ[i]? = some (some (.ref a))) (e : H a = some (.dK (l.map ent))) (nd : (keysI l).Nodup) (h : Evl.Ev te σ H (.int p)) :
    Evl.Ev (tDGet2 (tVar i) te (tC (.int 0))) σ H (.int (hadI l p)) := fun H0 s0 Q q =>
  ⟨_, hi, a, rfl, .inl ⟨_, .inl (s0 _ _ e)⟩, h H0 s0 _ fun H1 s1 => ⟨_, DGet.k (k := .inl p) (s1 _ _ (s0 _ _ e)), by
    rw [valV_ent]
    have q1 := q H1 s1
    rw [← getI_had nd] at q1
    cases g : getI l p <;> rw [g] at q1 <;> exact q1⟩⟩
/-- d[e], there -/
theorem ev_dget {i : Nat} {a : Addr} {l : List I2} {p c : Int} (hi : σ[i]? = some (some (.ref a))) (e : H a = some (.dK (l.map ent))) (g : getI l p = some c) (h : Evl.Ev te σ H (.int p)) :
    Evl.Ev (tDGet (tVar i) te) σ H (.int c) := fun H0 s0 Q q =>
  ⟨_, hi, h H0 s0 _ fun H1 s1 => ⟨a, .int c, rfl, by
    have := DGet.k (k := .inl p) (s1 _ _ (s0 _ _ e))
    rw [valV_ent, g] at this
    exact this, q H1 s1⟩⟩
/-- d[e] = v -/
theorem s_dput {D : Ends} {i : Nat} {a : Addr} {l : List I2} {p c : Int} (hi : σ[i]? = some (some (.ref a))) (e : H a = some (.dK (l.map ent))) (hl : l.length ≤ 1000) (hv : Evl.Ev te σ H (.int c)) (hp : Evl.Ev ta σ H (.int p))
    (k : ∀ H1, Same H H1 → D.nx σ (upd H1 a (.dK ((putI l p c).map ent)))) : sDPut (tVar i) ta te D σ H :=
  hv H (Same.refl H) _ fun H1 s1 => ⟨_, hi, hp H1 s1 _ fun H2 s2 => ⟨a, _, rfl, DPut.k (k := .inl p) ((Same.trans s1 s2) _ _ e) (Evl.sz_lt (by rw [List.length_map]; omega)), by
    rw [putK_ent]
    exact k H2 (Same.trans s1 s2)⟩⟩
theorem q_dput {D : Ends} {tz : TS} {i : Nat} {a : Addr} {l : List I2} {p c : Int} (hi : σ[i]? = some (some (.ref a))) (e : H a = some (.dK (l.map ent))) (hl : l.length ≤ 1000) (hv : Evl.Ev te σ H (.int c)) (hp : Evl.Ev ta σ H (.int p))
    (k : ∀ H1, Same H H1 → tz D σ (upd H1 a (.dK ((putI l p c).map ent)))) : tSeq (sDPut (tVar i) ta te) tz D σ H := s_dput (D := { D with nx := tz D }) hi e hl hv hp k
/-- a name = a new list -/
theorem q_l {D : Ends} {tz : TS} {i : Nat} {xs : List V} (h : Evl.EvL te σ H xs) (k : ∀ p H1, H p = none → Same H H1 → H1 p = some (.lst xs) → tz D (σ.set i (some (.ref p))) H1) : tSeq (tAsg te (gName i)) tz D σ H :=
  h H (Same.refl H) _ fun p H1 np s1 e => k p H1 np s1 e
theorem s_l {D : Ends} {i : Nat} {xs : List V} (h : Evl.EvL te σ H xs) (k : ∀ p H1, H p = none → Same H H1 → H1 p = some (.lst xs) → D.nx (σ.set i (some (.ref p))) H1) : tAsg te (gName i) D σ H :=
  h H (Same.refl H) _ fun p H1 np s1 e => k p H1 np s1 e
/-- [e for x in tuple if t] -/
theorem el_lcTF {tt : TT} {xs : List V} {i : Nat} {vs : List Nat} (f : V → Bool) (v : V → V) (h : Evl.EvU tl σ H xs) (hm : xs.length ≤ 40000) (hw : ∀ a, wipe ((wipe σ vs).set i a) vs = wipe σ vs)
    (ht : ∀ x ∈ xs, Evl.EvT tt ((wipe σ vs).set i (some x)) H (f x)) (he : ∀ x ∈ xs, f x = true → Evl.Ev te ((wipe σ vs).set i (some x)) H (v x)) : Evl.EvL (tLc (iTup K tl) (gName i) tt te vs) σ H ((xs.filter f).map v) := fun H0 s0 Q q =>
  h H0 s0 _ fun a H1 _ s1 ea => ⟨a, rfl, ⟨xs, SqT.of ea⟩, fun D nD =>
    lc_tup (K := K) (a := a) (xs := xs) (fun k H' => Same H1 H' ∧ H' D = some (.lst (((xs.take k).filter f).map v))) ⟨same_new nD, upd_same⟩ (fun k H' _ p => SqT.of (p.1 _ _ ea))
      (fun k x H' hk p => ⟨hw _, ht x (List.mem_of_getElem? hk) H' (Same.trans (Same.trans s0 s1) p.1) _ fun H3 s3 => by
        rw [take_snoc hk, List.filter_append, List.map_append]
        cases hf : f x with
        | false =>
          refine iteF ⟨Same.trans p.1 s3, ?_⟩
          rw [List.filter_cons_of_neg (by rw [hf]; decide), List.filter_nil, List.map_nil, List.append_nil]
          exact s3 _ _ p.2
        | true =>
          refine iteT ?_
          refine he x (List.mem_of_getElem? hk) hf H3 (Same.trans (Same.trans (Same.trans s0 s1) p.1) s3) _ fun H4 s4 => ⟨_, s4 _ _ (s3 _ _ p.2), ?_, same_mut (Same.trans p.1 (Same.trans s3 s4)) nD, ?_⟩
          · rw [List.length_map]
            have := List.length_filter_le f (xs.take k)
            rw [List.length_take] at this
            exact Evl.sz_lt (by omega)
          · rw [upd_same, List.filter_cons_of_pos hf, List.filter_nil]
            rfl⟩)
      (fun H' p => q D H' (Same.free s1 nD) (Same.trans s1 p.1) (by
        have := p.2
        rw [List.take_length] at this
        exact this))⟩
end
end Wk
/-! law 2: giving one by one -/
namespace Wk
open PySem PySem.Spec PyProof.Rows L2 Spr
section
variable {K : PySem.W.Frag} {σ : L2.St} {H : Hp} {te ta tb tl : TE}
theorem dp_ints : ∀ ns : List Int, DpAll K H (ns.map V.int) (ns.map PyData.int)
  | [] => .nil
  | x :: ns => .cons (.int x) (dp_ints ns)
theorem lay_ints : ∀ ns : List Int, PyData.canLayAll0 (ns.map PyData.int) = true ∧ PyData.depthAll (ns.map PyData.int) ≤ 1
  | [] => ⟨rfl, Nat.zero_le _⟩
  | x :: ns => by
    obtain ⟨h1, h2⟩ := lay_ints ns
    refine ⟨?_, ?_⟩
    · show (true && PyData.canLayAll0 (ns.map PyData.int)) = true
      rw [h1]; rfl
    · show max (PyData.depth (PyData.int x)) (PyData.depthAll (ns.map PyData.int)) ≤ 1
      have e : PyData.depth (PyData.int x) ≤ 1 := by show PyData.depth (PyData.int x) ≤ 1; simp [PyData.depth]
      omega
theorem shaped_intsI (ns : List Int) : SeqAt.shaped (.list (ns.map PyData.int)) = true := by
  obtain ⟨h1, h2⟩ := lay_ints ns
  unfold SeqAt.shaped
  rw [Bool.and_eq_true]
  refine ⟨h1, decide_eq_true ?_⟩
  show PyData.depthAll (ns.map PyData.int) + 1 ≤ 64
  omega
/-- for .. in (..): the invariant by the tuple, the turn, the slots, the heap -/
theorem q_forU {D : Ends} {g : TG} {tb tz : TS} {xs : List V} (h : Evl.EvU tl σ H xs) (Pv : Addr → Nat → L2.St → Hp → Prop) (h0 : ∀ a H1, H a = none → Same H H1 → H1 a = some (.tup xs) → Pv a 0 σ H1) (keep : ∀ a i σ H', Pv a i σ H' → SqT K H' a xs)
    (hs : ∀ a i x σ H', xs[i]? = some x → Pv a i σ H' → g x σ H' fun σ2 H2 => tb { D with nx := Pv a (i + 1), ct := Pv a (i + 1), bk := tz D } σ2 H2) (hd : ∀ a σ H', Pv a xs.length σ H' → tz D σ H') : tSeq (tFor (iTup K tl) g tb) tz D σ H :=
  h H (Same.refl H) _ fun a H1 na s1 ea => ⟨a, rfl, ⟨xs, SqT.of ea⟩, for_tup (K := K) (a := a) (xs := xs) (D := { D with nx := tz D }) (Pv a) (h0 a H1 na s1 ea) (fun i σ H' _ p => keep a i σ H' p) (fun i x σ H' hk p => hs a i x σ H' hk p) (fun σ H' p => hd a σ H' p)⟩
theorem ev_neNil {ws : List Int} (h : EvI te σ H (ws.map V.int)) : Evl.Ev (tOp (rNeD K) te (tLst tNil)) σ H (.bl (!decide (ws = []))) := fun H0 s0 Q q =>
  h H0 s0 _ fun p H1 s1 ep => ⟨Nat.zero_le _, fun p0 np0 => ⟨.list (ws.map PyData.int), .list [], .lst (SqL.of (same_new np0 _ _ ep)) (dp_ints ws), .lst (SqL.of upd_same) .nil, shaped_intsI ws, shaped_nil, by
    have e : PyData.eqv (.list (ws.map PyData.int)) (.list []) = decide (ws = []) := by
      cases ws with
      | nil => show PyData.eqvAll [] [] = _; rw [PyData.eqvAll]; rfl
      | cons x r => show PyData.eqvAll (PyData.int x :: r.map PyData.int) [] = _; rw [PyData.eqvAll]; rfl
    rw [e]
    exact q _ (Same.trans s1 (same_new np0))⟩⟩
/-- a = min(b) if t else max(b) -/
theorem q_minmax {D : Ends} {tz : TS} {fo : Bool} {ws : List Int} {p : Addr} {i j k : Nat} (h1 : σ[i]? = some (some (.bl fo))) (h2 : σ[j]? = some (some (.ref p))) (e : H p = some (.lst (ws.map V.int))) (hne : ws ≠ []) (c : ∀ x ∈ ws, tz D (σ.set k (some (.int x))) H) :
    tSeq (tAsg (tIf (tB (tVar i)) (tCB (rMin K) (tCons (tVar j) tNil)) (tCB (rMax K) (tCons (tVar j) tNil))) (gName k)) tz D σ H :=
  ⟨_, h1, fo, rfl, by
    have hp : 0 < ws.length := List.length_pos_iff.mpr hne
    cases fo with
    | true => exact iteT ⟨_, h2, p, ws, rfl, SqL.of e, hp, fun m hm _ => c m hm⟩
    | false => exact iteF ⟨_, h2, p, ws, rfl, SqL.of e, hp, fun m hm _ => c m hm⟩⟩
end
section
variable {P : Program} {w : World} {K : PySem.W.Frag} {mg : Str → Option Value} {base : Heap}
def spGiven : Sp := fun vs H Q _ => ∃ (a : Addr) (hs : List I2) (fo : Bool), vs = [.ref a, .bl fo] ∧ PL H a hs ∧ K2 hs ∧ ∀ H' t d e l tl, Same H H' → H t = none → H' t = some (.tup [.ref d, .ref e]) → H d = none → H e = none → H' d = some (.dK (l.map ent)) → H' e = some (.dK (tl.map ent)) → GI hs l tl [] → 1 ≤ l.length → Q (.ref t) H'
/-- the while's state -/
def GW (H : Hp) (a : Addr) (fo : Bool) (d e : Addr) (y5 : Option V) (hs : List I2) (m : Nat) (σ : L2.St) (H' : Hp) : Prop :=
  ∃ (l tl : List I2) (ws : List Int) (p : Addr) (y4 y7 : Option V), m = todo hs tl ws ∧ m ≤ 40000 ∧ σ = [some (.ref a), some (.bl fo), some (.ref d), some (.ref e), y4, y5, some (.ref p), y7] ∧ Same H H' ∧ H p = none ∧ H' d = some (.dK (l.map ent)) ∧ H' e = some (.dK (tl.map ent)) ∧ H' p = some (.lst (ws.map V.int)) ∧ GI hs l tl ws ∧ 1 ≤ l.length
theorem cal_given (T : Top K mg) : C8.Cal P w K mg base 1 "_law_given" spGiven [] := by
  refine T.d__law_given.cal sc__law_given (fun vs H Q E h => ?_) (fun f cdv A outer s H vs Q E hr h => ?_)
  · obtain ⟨a, hs, fo, rfl, _⟩ := h
    rfl
  · obtain ⟨a, hs, fo, rfl, ha, k2, q⟩ := h
    refine ⟨_, (pss_cons (ps_asg (pe_tup (pa_cons pe_dnewK (pa_cons pe_dnewK pa_nil))) (pg_tup rfl (pgs_cons (pg_name (i := 2) sc__law_given.nd rfl (Or.inr rfl)) (pgs_cons (pg_name (i := 3) sc__law_given.nd rfl (Or.inl rfl)) pgs_nil))))
 (pss_cons (ps_for PassesOwn.never rfl (pi_list (pv 0)) (pg_tup rfl (pgs_cons (pg_name (i := 4) sc__law_given.nd rfl (Or.inl rfl)) (pgs_cons (pg_name (i := 5) sc__law_given.nd rfl (Or.inl rfl)) pgs_nil)))
 (pss_one (ps_dput (hu_of hr) (pv 2) (pv 4) (pe_op op_add (pe_dget2 (hu_of hr) (pv 2) (pv 4) pe_int ⟨by rfl, by rfl, by rfl, by rfl⟩) (pv 5)) (by rfl))))
 (pss_cons (ps_setLc (i := 6) (own := [("_law_place", 4), ("_law_count", 5)]) (g := (gTup K 2 (gCons (gName 4) (gCons (gName 5) gNil)))) rfl sc__law_given.nd rfl rfl (sw_true rfl rfl rfl (by decide +kernel)) (pi_list (pv 0)) (blkOk_by (own := [("_law_place", 4), ("_law_count", 5)]) (N := ["_law_heaps", "_law_forth", "_law_had", "_law_times", "_law_place", "_law_count", "_law_waiting", "_law_near"]) (sc := defScope st__law_given) (by decide +kernel)) (fun _ _ _ _ _ => (pg_tup rfl (pgs_cons (pg_name (i := 4) sc__law_given.nd rfl (Or.inl rfl)) (pgs_cons (pg_name (i := 5) sc__law_given.nd rfl (Or.inl rfl)) pgs_nil)))) (fun _ _ _ _ _ => pts_nil) (fun _ _ _ _ _ => (pv 4)))
 (pss_cons (ps_while PassesOwn.never (pt_cmpR (op_neD hr.units) (pv 6) (pe_lst pa_nil) (nomark _))
 (pss_cons (ps_set (i := 4) sc__law_given.nd rfl (Or.inl rfl) (pe_ifExp (pt_val (pv 1)) (pe_callB (cr_min rfl) (by rfl) T.m_min (by decide +kernel) (pa_cons (pv 6) pa_nil)) (pe_callB (cr_max rfl) (by rfl) T.m_max (by decide +kernel) (pa_cons (pv 6) pa_nil))))
 (pss_cons (ps_expr (pe_bm PySem.F.plainAttrs_list PySem.F.slot_list_remove PySem.F.type_list_remove mt_remove (pv 6) (pa_cons (pv 4) pa_nil)))
 (pss_one (ps_if (pt_cmpR op_gt (pe_dget2 (hu_of hr) (pv 2) (pv 4) pe_int ⟨by rfl, by rfl, by rfl, by rfl⟩) pe_int (nomark _))
 (pss_cons (ps_dput (hu_of hr) (pv 2) (pv 4) (pe_op op_sub (pe_dget (hu_of hr) (pv 2) (pv 4) (fun _ _ => rfl)) pe_int) (by rfl))
 (pss_cons (ps_dput (hu_of hr) (pv 3) (pv 4) (pe_op op_add (pe_dget2 (hu_of hr) (pv 3) (pv 4) pe_int ⟨by rfl, by rfl, by rfl, by rfl⟩) pe_int) (by rfl))
 (pss_cons (ps_for PassesOwn.never rfl (pi_tup (pe_tup (pa_cons (pe_op op_sub (pv 4) pe_int) (pa_cons (pe_op op_add (pv 4) pe_int) pa_nil)))) (pg_name (i := 7) sc__law_given.nd rfl (Or.inl rfl))
 (pss_one (ps_dput (hu_of hr) (pv 2) (pv 7) (pe_op op_add (pe_dget2 (hu_of hr) (pv 2) (pv 7) pe_int ⟨by rfl, by rfl, by rfl, by rfl⟩) pe_int) (by rfl))))
 (pss_one (ps_set (i := 6) sc__law_given.nd rfl (Or.inl rfl) (pe_op op_cat (pv 6) (pe_lc (own := [("_law_near", 7)]) (g := (gName 7)) rfl sc__law_given.nd (pi_tup (pe_tup (pa_cons (pe_op op_sub (pv 4) pe_int) (pa_cons (pv 4) (pa_cons (pe_op op_add (pv 4) pe_int) pa_nil))))) (blkOk_by (own := [("_law_near", 7)]) (N := ["_law_heaps", "_law_forth", "_law_had", "_law_times", "_law_place", "_law_count", "_law_waiting", "_law_near"]) (sc := defScope st__law_given) (by decide +kernel)) (fun _ _ _ _ _ => (pg_name (i := 7) sc__law_given.nd rfl (Or.inl rfl))) (fun _ _ _ _ _ => (pts_one (pt_cmpR op_gt (pe_dget (hu_of hr) (pv 2) (pv 7) (fun _ _ => rfl)) pe_int (nomark _)))) (fun _ _ _ _ _ => (pv 7)))))))))
 pss_nil)))))
 (pss_one (ps_ret (pe_tup (pa_cons (pv 2) (pa_cons (pv 3) pa_nil))))))))), ?_⟩
    -- had, times = {}, {}
    refine fun d nd e ne => ⟨(by show 2 ≤ sizeLine; decide), fun t0 nt0 => ⟨t0, _, rfl, SqT.of upd_same, rfl, _, _, rfl, _, _, rfl, rfl, ?_⟩⟩
    have de : d ≠ e := ne_of_none upd_same ne
    have neH : H e = none := by
      rw [upd_ne de.symm] at ne
      exact ne
    have s2 : Same H (upd (upd (upd H d (.dK [])) e (.dK [])) t0 (.tup [.ref d, .ref e])) := ((same_new nd).trans (same_new ne)).trans (same_new nt0)
    have hd2 : (upd (upd (upd H d (.dK [])) e (.dK [])) t0 (.tup [.ref d, .ref e])) d = some (.dK (([] : List I2).map ent)) := same_new nt0 _ _ (same_new ne _ _ upd_same)
    have he2 : (upd (upd (upd H d (.dK [])) e (.dK [])) t0 (.tup [.ref d, .ref e])) e = some (.dK (([] : List I2).map ent)) := same_new nt0 _ _ upd_same
    generalize (upd (upd (upd H d (.dK [])) e (.dK [])) t0 (.tup [.ref d, .ref e])) = H2 at *
    obtain ⟨xs, ea, px⟩ := id ha
    -- for place, count in heaps
    refine ⟨_, rfl, a, rfl, ⟨xs, SqL.of (s2 _ _ ea)⟩, for_list (K := K) (a := a) (xs := xs) (fun i σ H' => ∃ (l : List I2) (y4 y5 : Option V), σ = [some (.ref a), some (.bl fo), some (.ref d), some (.ref e), y4, y5, none, none] ∧ Same H H' ∧ H' d = some (.dK (l.map ent)) ∧ H' e = some (.dK (([] : List I2).map ent)) ∧ (keysI l).Nodup ∧ (∀ p, hadI l p = hadI (hs.take i) p) ∧ (∀ p ∈ keysI l, p ∈ keysI hs) ∧ l.length ≤ i ∧ (1 ≤ i → 1 ≤ l.length))
      ⟨[], none, none, rfl, s2, hd2, he2, List.nodup_nil, fun p => by rw [List.take_zero], fun p m => (nomatch m), Nat.le_refl _, fun z => by omega⟩ (fun i σ H' _ hP => ?_) ?_ ?_⟩
    · obtain ⟨_, _, _, _, s3, _⟩ := hP
      exact SqL.of (s3 _ _ ea)
    · rintro i v σ H3 hi ⟨l, y4, y5, rfl, s3, hd3, he3, nd3, hh, hk, hl, hl1⟩
      obtain ⟨x, hx, t, rfl, et⟩ := pr_get px hi
      have mx := List.mem_of_getElem? hx
      have hi6 : i < 6 := by
        have h1 := (List.getElem?_eq_some_iff.mp hx).1
        have := k2.len
        omega
      show gTup K 2 _ _ _ _ _
      refine ⟨t, _, rfl, SqT.of (s3 _ _ et), rfl, _, _, rfl, _, _, rfl, rfl, ?_⟩
      refine s_dput rfl hd3 (by omega) (Evl.ev_op (ev_dget2 rfl hd3 nd3 (Evl.ev_var rfl)) (Evl.ev_var rfl) Evl.rv_I0) (Evl.ev_var rfl) fun H4 s4 => ?_
      refine ⟨putI l x.1 (hadI l x.1 + x.2), _, _, rfl, same_mut (s3.trans s4) nd, upd_same, ?_, nd_put nd3, fun p => ?_, fun p m => ?_, ?_, fun _ => len_put2 _ _ _⟩
      · rw [upd_ne de.symm]
        exact s4 _ _ he3
      · rw [had_put nd3, take_snoc hx, hadI_app, hadI_cons, hadI_nil, hh p]
        split
        · next e => rw [e, if_pos rfl, hh x.1]; omega
        · rw [if_neg (by omega)]; omega
      · rw [keys_put] at m
        split at m
        · exact hk p m
        · rcases List.mem_append.mp m with m | m
          · exact hk p m
          · rw [List.mem_singleton.mp m]
            exact List.mem_map.mpr ⟨x, mx, rfl⟩
      · have := len_put l x.1 (hadI l x.1 + x.2)
        omega
    · rintro σ H3 ⟨l, y4, y5, rfl, s3, hd3, he3, nd3, hh, hk, hl, hl1⟩
      rw [pr_len px, List.take_length] at hh
      rw [pr_len px] at hl hl1
      have hl6 := k2.len
      refine nx_mk ?_
      -- waiting
      refine q_l (el_lcP0 (K := K) (fun x => V.int x.1) (evq_var rfl (ha.mono s3)) (by omega) (fun _ _ => rfl) fun x _ => Evl.ev_var rfl) fun p H4 np s4 ep => ?_
      have e0 : hs.map (fun x => V.int x.1) = (keysI hs).map V.int := by
        unfold keysI
        rw [List.map_map]
        rfl
      rw [e0] at ep
      have g0 : GI hs l [] (keysI hs) := GI.start k2.pos nd3 hh hk fun p m => m
      have kl : (keysI hs).length = hs.length := by unfold keysI; rw [List.length_map]
      -- while
      refine ⟨GW H a fo d e y5 hs, ⟨_, l, [], keysI hs, p, y4, none, rfl, ?_, rfl, s3.trans s4, s3.free np, s4 _ _ hd3, s4 _ _ he3, ep, g0, hl1 k2.l0⟩, ?_⟩
      · have := k2.twice
        unfold todo
        rw [tot_nil, kl]
        omega
      rintro m σ H5 ⟨l, tl, ws, p, y4, y7, em, hm, rfl, s5, npH, hd5, he5, ep5, g, hl1⟩
      have hwl : ws.length ≤ 40000 := by unfold todo at em; omega
      refine (Evl.et_test (ev_neNil (evi_var rfl ep5))) H5 (Same.refl _) _ fun H6 s6 => ?_
      have s06 := s5.trans s6
      have hd6 := s6 _ _ hd5
      have he6 := s6 _ _ he5
      have ep6 := s6 _ _ ep5
      by_cases hne : ws = []
      · subst hne
        refine iteF ?_
        refine nx_mk ?_
        refine ⟨_, rfl, _, rfl, (by show 2 ≤ sizeLine; decide), fun t nt => ?_⟩
        have s7 := same_new (o := .tup [.ref d, .ref e]) nt
        exact q _ t d e l tl (s06.trans s7) (s06.free nt) upd_same nd neH (s7 _ _ hd6) (s7 _ _ he6) g hl1
      · rw [decide_eq_false hne]
        refine iteT ⟨fun σ' H' => ∃ m', m' < m ∧ GW H a fo d e y5 hs m' σ' H', fun _ _ h => h, ?_⟩
        refine q_minmax rfl rfl ep6 hne fun x mx => ?_
        obtain ⟨j, hj, hno, hel, hkeep⟩ := first_at mx
        -- waiting.remove(place)
        refine ⟨_, rfl, .inl ⟨rfl, _, SqL.of ep6⟩, _, rfl, p, ws, x, j, rfl, rfl, ep6, hj, hno, ?_⟩
        have dp : d ≠ p := ne_of hd6 ep6 (fun z => nomatch z)
        have epp : e ≠ p := ne_of he6 ep6 (fun z => nomatch z)
        have s7 : Same H (upd H6 p (.lst ((ws.eraseIdx j).map V.int))) := same_mut s06 npH
        have hd7 : (upd H6 p (.lst ((ws.eraseIdx j).map V.int))) d = some (.dK (l.map ent)) := by rw [upd_ne dp]; exact hd6
        have he7 : (upd H6 p (.lst ((ws.eraseIdx j).map V.int))) e = some (.dK (tl.map ent)) := by rw [upd_ne epp]; exact he6
        have ep7 : (upd H6 p (.lst ((ws.eraseIdx j).map V.int))) p = some (.lst ((ws.eraseIdx j).map V.int)) := upd_same
        generalize (upd H6 p (.lst ((ws.eraseIdx j).map V.int))) = H7 at *
        generalize ews : ws.eraseIdx j = ws' at *
        have hl57 := k2.len1 g
        have ht57 := k2.len2 g
        refine if_t (c := 1 < hadI l x) (Evl.et_test (Evl.ev_op (ev_dget2 rfl hd7 g.nd (Evl.ev_var rfl)) Evl.ev_c Evl.rv_I0)) (fun hc H8 s8 => ?_) (fun hc H8 s8 => ?_)
        · have hd8 := s8 _ _ hd7
          have he8 := s8 _ _ he7
          have ep8 := s8 _ _ ep7
          -- had[place] = had[place] - 2
          refine q_dput rfl hd8 (by omega) (Evl.ev_op (ev_dget rfl hd8 (get_some g.nd (by omega)) (Evl.ev_var rfl)) Evl.ev_c Evl.rv_I0) (Evl.ev_var rfl) fun H9 s9 => ?_
          have s10 : Same H (upd H9 d (.dK ((giveK l x 0).map ent))) := same_mut ((s7.trans s8).trans s9) nd
          have hd10 : (upd H9 d (.dK ((giveK l x 0).map ent))) d = some (.dK ((giveK l x 0).map ent)) := upd_same
          have he10 : (upd H9 d (.dK ((giveK l x 0).map ent))) e = some (.dK (tl.map ent)) := by rw [upd_ne de.symm]; exact s9 _ _ he8
          have ep10 : (upd H9 d (.dK ((giveK l x 0).map ent))) p = some (.lst (ws'.map V.int)) := by rw [upd_ne dp.symm]; exact s9 _ _ ep8
          show tSeq _ _ _ _ (upd H9 d (.dK ((giveK l x 0).map ent)))
          generalize (upd H9 d (.dK ((giveK l x 0).map ent))) = H10 at *
          -- times[place] = ..
          refine q_dput rfl he10 (by omega) (Evl.ev_op (ev_dget2 rfl he10 g.ndt (Evl.ev_var rfl)) Evl.ev_c Evl.rv_I0) (Evl.ev_var rfl) fun H11 s11 => ?_
          generalize etl : putI tl x (hadI tl x + 1) = tl' at *
          have s12 : Same H (upd H11 e (.dK (tl'.map ent))) := same_mut (s10.trans s11) neH
          have hd12 : (upd H11 e (.dK (tl'.map ent))) d = some (.dK ((giveK l x 0).map ent)) := by rw [upd_ne de]; exact s11 _ _ hd10
          have he12 : (upd H11 e (.dK (tl'.map ent))) e = some (.dK (tl'.map ent)) := upd_same
          have ep12 : (upd H11 e (.dK (tl'.map ent))) p = some (.lst (ws'.map V.int)) := by rw [upd_ne epp.symm]; exact s11 _ _ ep10
          generalize (upd H11 e (.dK (tl'.map ent))) = H12 at *
          -- for near in ..
          refine q_forU (K := K) (xs := [.int (x - 1), .int (x + 1)]) (Evl.eu_tup (Evl.ea_cons (Evl.ev_op (Evl.ev_var rfl) Evl.ev_c Evl.rv_I0) (Evl.ea_cons (Evl.ev_op (Evl.ev_var rfl) Evl.ev_c Evl.rv_I0) Evl.ea_nil)) (by show 2 ≤ 100000; decide))
            (fun tt i σ H' => ∃ y7, σ = [some (.ref a), some (.bl fo), some (.ref d), some (.ref e), some (.int x), y5, some (.ref p), y7] ∧ Same H H' ∧ H' tt = some (.tup [.int (x - 1), .int (x + 1)]) ∧ H' e = some (.dK (tl'.map ent)) ∧ H' p = some (.lst (ws'.map V.int)) ∧ H' d = some (.dK ((giveK l x i).map ent)))
            (fun tt H13 ntt s13 ett => ⟨_, rfl, s12.trans s13, ett, s13 _ _ he12, s13 _ _ ep12, s13 _ _ hd12⟩) (fun tt i σ H' hP => ?_) (fun tt => ?_) (fun tt => ?_)
          · obtain ⟨_, _, _, e, _⟩ := hP
            exact SqT.of e
          · rintro i v σ H14 hi ⟨y7, rfl, s14, ett14, he14, ep14, hd14⟩
            have dt : tt ≠ d := ne_of ett14 hd14 (fun z => nomatch z)
            have gl := giveK_len l x i
            have hv : ∃ z, v = .int z ∧ giveK l x (i + 1) = putI (giveK l x i) z (hadI (giveK l x i) z + 1) := by
              match i, hi with
              | 0, hi => cases hi; exact ⟨_, rfl, rfl⟩
              | 1, hi => cases hi; exact ⟨_, rfl, rfl⟩
            obtain ⟨z, rfl, ez⟩ := hv
            refine s_dput rfl hd14 (by omega) (Evl.ev_op (ev_dget2 rfl hd14 (giveK_nd g.nd x i) (Evl.ev_var rfl)) Evl.ev_c Evl.rv_I0) (Evl.ev_var rfl) fun H15 s15 => ?_
            rw [← ez]
            refine ⟨_, rfl, same_mut (s14.trans s15) nd, ?_, ?_, ?_, upd_same⟩
            · rw [upd_ne dt]; exact s15 _ _ ett14
            · rw [upd_ne de.symm]; exact s15 _ _ he14
            · rw [upd_ne dp.symm]; exact s15 _ _ ep14
          · rintro σ H14 ⟨y7, rfl, s14, ett14, he14, ep14, hd14⟩
            have hd14 : H14 d = some (.dK ((giveT l x).map ent)) := hd14
            have gnd := nd_give g.nd x
            -- waiting = waiting + ..
            refine s_l (el_cat (evi_var rfl ep14) (evi_of (el_lcTF (K := K) (xs := [.int (x - 1), .int x, .int (x + 1)]) (fun v => match v with | .int z => decide (1 < hadI (giveT l x) z) | _ => false) id (Evl.eu_tup (Evl.ea_cons (Evl.ev_op (Evl.ev_var rfl) Evl.ev_c Evl.rv_I0) (Evl.ea_cons (Evl.ev_var rfl) (Evl.ea_cons (Evl.ev_op (Evl.ev_var rfl) Evl.ev_c Evl.rv_I0) Evl.ea_nil))) (by show 3 ≤ 100000; decide)) (by show 3 ≤ 40000; decide) (fun _ => rfl) (fun v mv => ?_) (fun v mv _ => Evl.ev_var rfl))) ?_) fun p' H15 np' s15 ep' => ?_
            · have hv : ∃ z, v = .int z ∧ (z = x - 1 ∨ z = x ∨ z = x + 1) := by
                simp only [List.mem_cons, List.not_mem_nil, or_false] at mv
                rcases mv with rfl | rfl | rfl
                · exact ⟨_, rfl, .inl rfl⟩
                · exact ⟨_, rfl, .inr (.inl rfl)⟩
                · exact ⟨_, rfl, .inr (.inr rfl)⟩
              obtain ⟨z, rfl, hz⟩ := hv
              exact Evl.et_test (Evl.ev_op (ev_dget rfl hd14 (get_key gnd (giveK_keys z hz)) (Evl.ev_var rfl)) Evl.ev_c Evl.rv_I0)
            · rw [List.length_map, List.length_map]
              have := List.length_filter_le (fun v => match v with | .int z => decide (1 < hadI (giveT l x) z) | _ => false) [V.int (x - 1), V.int x, V.int (x + 1)]
              have e3 : [V.int (x - 1), V.int x, V.int (x + 1)].length = 3 := rfl
              omega
            · have ef : ([V.int (x - 1), V.int x, V.int (x + 1)].filter fun v => match v with | .int z => decide (1 < hadI (giveT l x) z) | _ => false) = ([x - 1, x, x + 1].filter fun z => decide (1 < hadI (giveT l x) z)).map V.int := by
                show (([x - 1, x, x + 1].map V.int).filter _) = _
                rw [List.filter_map]
                rfl
              rw [ef, List.map_id, ← List.map_append] at ep'
              have g' := GI.give k2.pos g (x := x) (ws' := ws' ++ [x - 1, x, x + 1].filter fun z => decide (1 < hadI (giveT l x) z)) (by omega) (fun p m np => List.mem_append_left _ (hkeep p m np)) (fun p hp h2 => List.mem_append_right _ (List.mem_filter.mpr ⟨by
                  simp only [List.mem_cons, List.not_mem_nil, or_false]
                  exact hp, decide_eq_true (by omega)⟩))
              rw [etl] at g'
              have tn := g'.twice k2.pos
              have t1 := tot_one g.ndt x
              rw [etl] at t1
              have fl := List.length_filter_le (fun z => decide (1 < hadI (giveT l x) z)) [x - 1, x, x + 1]
              have e3 : [x - 1, x, x + 1].length = 3 := rfl
              have lt : todo hs tl' (ws' ++ [x - 1, x, x + 1].filter fun z => decide (1 < hadI (giveT l x) z)) < m := by
                rw [em]
                unfold todo
                rw [List.length_append]
                omega
              exact ⟨_, lt, giveT l x, tl', _, p', _, _, rfl, by omega, rfl, s14.trans s15, s14.free np', s15 _ _ hd14, s15 _ _ he14, ep', g', len_give2 _ _⟩
        · refine ⟨todo hs tl ws', ?_, l, tl, ws', p, _, _, rfl, ?_, rfl, s7.trans s8, npH, s8 _ _ hd7, s8 _ _ he7, s8 _ _ ep7, g.rest (by omega) hkeep, hl1⟩
          · rw [em]
            unfold todo
            omega
          · rw [em] at hm
            unfold todo at *
            omega
end
end Wk
/-! law 2: law -/
namespace Wk
open PySem PySem.Spec PyProof.Rows L2 Spr
section
variable {K : PySem.W.Frag} {σ : L2.St} {H : Hp} {te ta tb tl : TE}
/-- sum([n for p, n in d.items()]) -/
theorem ev_sumItems {k i j : Nat} {vs : List Nat} {e : Addr} {tl : List I2} (hk : σ[k]? = some (some (.ref e))) (he : H e = some (.dK (tl.map ent))) (hl : tl.length ≤ 1000) (hw : ∀ a b, wipe (((wipe σ vs).set i a).set j b) vs = wipe σ vs)
    (hj : ∀ a b, (((wipe σ vs).set i a).set j b)[j]? = some b) :
    Evl.Ev (tLockE (tCB (rSum K) (tCons (tLc (iItems (tVar k)) (gTup K 2 (gCons (gName i) (gCons (gName j) gNil))) tYes (tVar j) vs) tNil))) σ H (.int (tot (fun h => h.2) tl)) := fun H0 s0 Q q =>
  ⟨e, _, s0 _ _ he, trivial, fun od => ⟨_, hk, e, od, tl.map ent, rfl, upd_same, fun D nD => by
    have e0 := s0 _ _ he
    have eD : e ≠ D := ne_of_none upd_same nD
    refine lc_it walk_items (fun n H' => Same (upd H0 e (.frz od (.dK (tl.map ent)))) H' ∧ H' D = some (.lst ((tl.take n).map fun h => V.int h.2))) ⟨same_new nD, upd_same⟩ (fun n H' _ p => p.1 _ _ upd_same) ?_ ?_
    · rintro n x H' H'' hn ⟨s1, eD1⟩ ⟨T, y1, y2, rfl, nT, rfl, hx, hy⟩
      rw [List.length_map] at hn
      have hg : tl[n]? = some tl[n] := List.getElem?_eq_getElem hn
      dsimp only at hx hy
      rw [List.getElem?_map, hg] at hx hy
      cases hx
      cases hy
      refine ⟨T, _, rfl, SqT.of upd_same, rfl, _, _, rfl, _, _, rfl, rfl, hw _ _, yesT ⟨_, hj _ _, _, (same_new nT) _ _ eD1, ?_, same_mut (s1.trans (same_new nT)) nD, ?_⟩⟩
      · rw [List.length_map, List.length_take]
        exact Evl.sz_lt (by omega)
      · rw [upd_same, take_snoc hg, List.map_append]
        rfl
    · rintro H' ⟨s1, eD1⟩
      rw [List.length_map, List.take_length] at eD1
      have e3 : tl.map (fun h => V.int h.2) = (tl.map fun h => h.2).map V.int := by
        rw [List.map_map]
        rfl
      rw [e3] at eD1
      refine ⟨D, tl.map fun h => h.2, rfl, SqL.of eD1, s1 _ _ upd_same, ?_⟩
      refine q _ fun b o hb => ?_
      by_cases c : b = e
      · subst c
        rw [upd_same]
        rw [e0] at hb
        exact hb
      · rw [upd_ne c]
        refine s1 _ _ ?_
        rw [upd_ne c]
        exact hb⟩⟩
end
theorem _root_.Spr.K2.hb {hs : List I2} (k : K2 hs) : HB hs := by
  have z : (1000 : Nat) < 2 ^ 200 := by decide +kernel
  refine ⟨by have := k.len; omega, k.pos, fun x m => ?_, fun x m => ?_⟩
  · have := k.near x m
    omega
  · have h1 : x.2 ≤ tot (fun h => h.2) hs := tot_le_mem k.pos m
    have h2 := k.pos x m
    have h3 := k.mass
    generalize tot (fun h => h.2) hs = N at *
    omega
theorem wd_small {x : Int} (h : x.natAbs < 1000000) {k : Nat} (hk : 20 ≤ k) : Wd k x := by
  have z : (1000000 : Nat) ≤ 2 ^ 20 := by decide
  exact Nat.lt_of_lt_of_le h (Nat.le_trans z (Nat.pow_le_pow_right (by decide) hk))
section
variable {P : Program} {w : World} {K : PySem.W.Frag} {mg : Str → Option Value} {base : Heap} {C : Addr}
def spLaw (K : PySem.W.Frag) : Sp := fun vs H Q _ => ∃ (a : Addr) (ns : List Int), vs = [.ref a] ∧ SqL K H a (ns.map V.int) ∧ ns.length ≤ 63 ∧ ∀ H', Q (.bl true) H'
theorem ok_law {f : Addr} {fd : FuncData} (F : L2.Fun K "law" "law" st_law f fd) (T : Top K mg) (TS : Top_Spread K mg C) : FnOk P w K mg base CX0 5 f fd ["_law_script"] (spLaw K) := by
  have c__law_cell_at : C8.Cal P w K mg base 1 "_law_cell_at" (spCell K) [] := cal_cell_at T
  have c__law_draw : C8.Cal P w K mg base 1 "_law_draw" spDraw [] := cal_draw T
  have c__law_given : C8.Cal P w K mg base 1 "_law_given" spGiven [] := cal_given T
  have c_gave : C8.Cal P w K mg base 4 "gave" spGave [] := cal_gave T
  have c_left : C8.Cal P w K mg base 4 "left" spLeft [] := cal_left T
  have c_all_gave : C8.Cal P w K mg base 4 "all_gave" spAll [] := cal_all_gave T
  have c_spread : C8.Cal P w K mg base 4 "spread" (spSpread C) [] := cal_spread T TS
  refine F.ok sc_law (fun vs H Q E h => ?_) (fun cdv A outer s H vs Q E hr h => ?_)
  · obtain ⟨a, ns, rfl, _⟩ := h
    rfl
  · obtain ⟨a, ns, rfl, hS, hlen, q⟩ := h
    refine ⟨_, (pss_cons (ps_set (i := 1) sc_law.nd rfl (Or.inl rfl) (pe_lst pa_nil))
 (pss_cons (ps_for PassesOwn.never rfl (pi_range1 (by rfl) T.m_range (pa_cons (pe_callB (call_min2 rfl) (by rfl) T.m_min (by decide +kernel) (pa_cons (pe_callB call_len_seq (by rfl) T.m_len (by decide +kernel) (pa_cons (pv 0) pa_nil)) (pa_cons pe_int pa_nil))) pa_nil)) (pg_name (i := 2) sc_law.nd rfl (Or.inl rfl))
 (pss_one (ps_expr (pe_bm PySem.F.plainAttrs_list PySem.F.slot_list_append PySem.F.type_list_append mt_append (pv 1) (pa_cons (pe_tup (pa_cons (pe_op op_sub (C8.pe_c c__law_draw hr (by decide) (by rfl) (pa_cons (pe_ix ix_list (pv 0) (pv 2) (fun _ _ => rfl)) (pa_cons (pe_op op_add (pe_op op_mod (pv 2) pe_int) pe_int) (pa_cons pe_int pa_nil)))) pe_int) (pa_cons (C8.pe_c c__law_draw hr (by decide) (by rfl) (pa_cons (pe_ix ix_list (pv 0) (pv 2) (fun _ _ => rfl)) (pa_cons (pe_op op_add (pe_op op_mod (pv 2) pe_int) pe_int) (pa_cons pe_int pa_nil)))) pa_nil))) pa_nil)))))
 (pss_cons (ps_expr (pe_bm PySem.F.plainAttrs_list PySem.F.slot_list_append PySem.F.type_list_append mt_append (pv 1) (pa_cons (pe_tup (pa_cons (C8.pe_c c__law_draw hr (by decide) (by rfl) (pa_cons (C8.pe_c c__law_cell_at hr (by decide) (by rfl) (pa_cons (pv 0) (pa_cons pe_int pa_nil))) (pa_cons pe_int (pa_cons pe_int pa_nil)))) (pa_cons (C8.pe_c c__law_draw hr (by decide) (by rfl) (pa_cons (C8.pe_c c__law_cell_at hr (by decide) (by rfl) (pa_cons (pv 0) (pa_cons pe_int pa_nil))) (pa_cons pe_int (pa_cons pe_int pa_nil)))) pa_nil))) pa_nil)))
 (pss_cons (ps_set (i := 3) sc_law.nd rfl (Or.inl rfl) (pe_fld (C8.pe_c c_spread hr (by decide) (by rfl) (pa_cons (pv 1) pa_nil)) rfl))
 (pss_cons (ps_for PassesOwn.never rfl (pi_tup (pe_tup (pa_cons pe_bl (pa_cons pe_bl pa_nil)))) (pg_name (i := 4) sc_law.nd rfl (Or.inl rfl))
 (pss_cons (ps_asg (C8.pe_c c__law_given hr (by decide) (by rfl) (pa_cons (pv 1) (pa_cons (pv 4) pa_nil))) (pg_tup rfl (pgs_cons (pg_name (i := 5) sc_law.nd rfl (Or.inl rfl)) (pgs_cons (pg_name (i := 6) sc_law.nd rfl (Or.inl rfl)) pgs_nil))))
 (pss_cons (ps_for PassesOwn.never rfl (pi_list (pe_op op_cat (pe_callB (call_sortedDI rfl) (by rfl) T.m_sorted (by decide +kernel) (pa_cons (pv 5) pa_nil)) (pe_lst (pa_cons (pe_un un_neg pe_int) (pa_cons (pe_op op_sub (pe_callB (cr_minK rfl) (by rfl) T.m_min (by decide +kernel) (pa_cons (pv 5) pa_nil)) pe_int) (pa_cons (pe_op op_add (pe_callB (cr_maxK rfl) (by rfl) T.m_max (by decide +kernel) (pa_cons (pv 5) pa_nil)) pe_int) pa_nil)))))) (pg_name (i := 7) sc_law.nd rfl (Or.inr rfl))
 (pss_cons (ps_set (i := 8) sc_law.nd rfl (Or.inl rfl) (pe_dget2 (hu_of hr) (pv 5) (pv 7) pe_int ⟨by rfl, by rfl, by rfl, by rfl⟩))
 (pss_cons (ps_if (pt_cmpR op_ne (C8.pe_c c_left hr (by decide) (by rfl) (pa_cons (pv 1) (pa_cons (pv 7) pa_nil))) (pv 8) (nomark _))
 (pss_one (ps_ret pe_bl))
 pss_nil)
 (pss_cons (ps_if (pt_cmpR op_ne (pe_callB (cr_any rfl) (by rfl) T.m_any (by decide +kernel) (pa_cons (pe_lc (own := [("_law_first", 9), ("_law_last", 10)]) (g := (gTup K 2 (gCons (gName 9) (gCons (gName 10) gNil)))) rfl sc_law.nd (pi_list (pv 3)) (blkOk_by (own := [("_law_first", 9), ("_law_last", 10)]) (N := ["_law_script", "_law_heaps", "_law_k", "_law_stretches", "_law_forth", "_law_had", "_law_times", "_law_place", "_law_rest", "_law_first", "_law_last", "_law_many"]) (sc := defScope st_law) (by decide +kernel)) (fun _ _ _ _ _ => (pg_tup rfl (pgs_cons (pg_name (i := 9) sc_law.nd rfl (Or.inl rfl)) (pgs_cons (pg_name (i := 10) sc_law.nd rfl (Or.inl rfl)) pgs_nil)))) (fun _ _ _ _ _ => pts_nil) (fun _ _ _ _ _ => (pe_chain op_le op_le (pv 9) (pv 7) (pv 10)))) pa_nil)) (pe_cmpR op_eq (pv 8) pe_int (nomark _)) (nomark _))
 (pss_one (ps_ret pe_bl))
 pss_nil)
 (pss_one (ps_if (pt_cmpR op_ne (C8.pe_c c_gave hr (by decide) (by rfl) (pa_cons (pv 1) (pa_cons (pv 7) pa_nil))) (pe_dget2 (hu_of hr) (pv 6) (pv 7) pe_int ⟨by rfl, by rfl, by rfl, by rfl⟩) (nomark _))
 (pss_one (ps_ret pe_bl))
 pss_nil))))))
 (pss_one (ps_if (pt_cmpR op_ne (C8.pe_c c_all_gave hr (by decide) (by rfl) (pa_cons (pv 1) pa_nil)) (pe_lock (pe_callB (cr_sum rfl) (by rfl) T.m_sum (by decide +kernel) (pa_cons (pe_lc (own := [("_law_place", 7), ("_law_many", 11)]) (g := (gTup K 2 (gCons (gName 7) (gCons (gName 11) gNil)))) rfl sc_law.nd (pi_items (pv 6)) (blkOk_by (own := [("_law_place", 7), ("_law_many", 11)]) (N := ["_law_script", "_law_heaps", "_law_k", "_law_stretches", "_law_forth", "_law_had", "_law_times", "_law_place", "_law_rest", "_law_first", "_law_last", "_law_many"]) (sc := defScope st_law) (by decide +kernel)) (fun _ _ _ _ _ => (pg_tup rfl (pgs_cons (pg_name (i := 7) sc_law.nd rfl (Or.inl rfl)) (pgs_cons (pg_name (i := 11) sc_law.nd rfl (Or.inl rfl)) pgs_nil)))) (fun _ _ _ _ _ => pts_nil) (fun _ _ _ _ _ => (pv 11))) pa_nil))) (nomark _))
 (pss_one (ps_ret pe_bl))
 pss_nil)))))
 (pss_one (ps_ret pe_bl))))))), ?_⟩
    -- heaps = []
    refine ⟨Nat.zero_le _, fun o no => ?_⟩
    have s1 : Same H (upd H o (.lst [])) := same_new no
    have em : (if (5 : Int) < ((ns.map V.int).length : Int) then (5 : Int) else ((ns.map V.int).length : Int)) = ((min ns.length 5 : Nat) : Int) := by
      rw [List.length_map]
      split <;> omega
    -- for k in range(min(len(script), 5))
    refine ⟨_, rfl, a, _, rfl, .inl (s1.seq hS), _, _, rfl, ((min ns.length 5 : Nat) : Int), ?_, by omega, by omega, ?_⟩
    · exact congrArg (fun z => [V.int z]) em
    refine for_range (lo := 0) (n := ((min ns.length 5 : Nat) : Int).toNat) (fun i σ H3 => ∃ y2 hs, σ = [some (.ref a), some (.ref o), y2, none, none, none, none, none, none, none, none, none] ∧ Same H H3 ∧ PL H3 o hs ∧ hs.length ≤ i ∧ ∀ h ∈ hs, (-7 ≤ h.1 ∧ h.1 ≤ 7) ∧ 0 ≤ h.2 ∧ h.2 ≤ 2) ⟨none, [], rfl, s1, ⟨[], upd_same, .nil⟩, Nat.le_refl _, fun _ m => nomatch m⟩ ?_ ?_
    · rintro i σ H4 hi ⟨y2, hs, rfl, s6, ⟨xs, eo4, px⟩, hl, hm⟩
      have hi5 : i < ns.length ∧ i < 5 := by omega
      obtain ⟨z1, _, hz1⟩ := ints_at (ns := ns) (k := 0 + (i : Int)) (by omega) (by omega)
      have hS6 := s6.seq hS
      refine ⟨_, rfl, .inl ⟨rfl, _, SqL.of eo4⟩, _, rfl, _, rfl, a, _, _, _, rfl, rfl, hS6, hz1, _, rfl, _, _, rfl, rfl, (show (0 : Int) < 5 by decide), _, _, rfl, rfl, _, _, _, rfl, by omega, by decide, fun d1 H5 p0 p1 s7 => ?_⟩
      refine ⟨_, _, rfl, rfl, ?_⟩
      refine ⟨_, rfl, _, rfl, a, _, _, _, rfl, rfl, s7.seq hS6, hz1, _, rfl, _, _, rfl, rfl, (show (0 : Int) < 7 by decide), _, _, rfl, rfl, _, _, _, rfl, by omega, by decide, fun d2 H6 p2 p3 s8 => ?_⟩
      refine ⟨(by show 2 ≤ sizeLine; decide), fun t nt => ?_⟩
      have eo6 := s8 _ _ (s7 _ _ eo4)
      have s9 := same_new (o := .tup [.int (d1 - 7), .int d2]) nt
      refine ⟨o, xs, _, rfl, rfl, s9 _ _ eo6, Evl.sz_lt ?_, ?_⟩
      · rw [pr_len px]
        omega
      have tp := tp_mut (o := .lst (xs ++ [V.ref t])) (s9 _ _ eo6)
      refine ⟨_, hs ++ [(d1 - 7, d2)], rfl, same_mut (((s6.trans s7).trans s8).trans s9) no, ⟨_, upd_same, pr_snoc ((((px.mono (same_tp s7)).mono (same_tp s8)).mono (same_tp s9)).mono tp) ⟨t, rfl, tp _ _ upd_same⟩⟩, ?_, fun h m => ?_⟩
      · rw [List.length_append, List.length_singleton]
        omega
      · rcases List.mem_append.mp m with m | m
        · exact hm h m
        · rw [List.mem_singleton.mp m]
          dsimp only
          omega
    · rintro σ H4 ⟨y2, hs0, rfl, s6, ⟨xs, eo4, px⟩, hl0, hm0⟩
      have hS6 := s6.seq hS
      refine nx_mk ?_
      -- the one more
      refine ⟨_, rfl, .inl ⟨rfl, _, SqL.of eo4⟩, _, rfl, a, ns, 0, rfl, hS6, by decide, fun i1 => ⟨i1, 6, 5, rfl, by decide, by decide, fun r1 H5 p0 p1 s7 => ⟨_, rfl, a, ns, 1, rfl, s7.seq hS6, by decide, fun i2 => ⟨i2, 7, 10, rfl, by decide, by decide, fun r2 H6 p2 p3 s8 => ⟨(by show 2 ≤ sizeLine; decide), fun t nt => ?_⟩⟩⟩⟩⟩
      have eo6 := s8 _ _ (s7 _ _ eo4)
      have s9 := same_new (o := .tup [.int r1, .int r2]) nt
      refine ⟨o, xs, _, rfl, rfl, s9 _ _ eo6, Evl.sz_lt (by rw [pr_len px]; omega), ?_⟩
      have tp := tp_mut (o := .lst (xs ++ [V.ref t])) (s9 _ _ eo6)
      have s10 : Same H _ := same_mut (o := .lst (xs ++ [V.ref t])) (((s6.trans s7).trans s8).trans s9) no
      have hO : PL (upd (upd H6 t (.tup [.int r1, .int r2])) o (.lst (xs ++ [V.ref t]))) o (hs0 ++ [(r1, r2)]) := ⟨_, upd_same, pr_snoc ((((px.mono (same_tp s7)).mono (same_tp s8)).mono (same_tp s9)).mono tp) ⟨t, rfl, tp _ _ upd_same⟩⟩
      generalize (upd (upd H6 t (.tup [.int r1, .int r2])) o (.lst (xs ++ [V.ref t]))) = H7 at *
      have k2 : K2 (hs0 ++ [(r1, r2)]) := by
        refine ⟨by rw [List.length_append, List.length_singleton]; omega, by rw [List.length_append, List.length_singleton]; omega, fun h m => ?_, fun h m => ?_, ?_⟩
        · rcases List.mem_append.mp m with m | m
          · exact (hm0 h m).2.1
          · rw [List.mem_singleton.mp m]; exact p2
        · rcases List.mem_append.mp m with m | m
          · exact (hm0 h m).1
          · rw [List.mem_singleton.mp m]
            dsimp only
            omega
        · have := tot_most (f := fun h => h.2) (c := 2) (l := hs0) fun x m => (hm0 x m).2.2
          rw [tot_app, tot_cons, tot_nil]
          omega
      generalize hs0 ++ [(r1, r2)] = hs at *
      have hB := k2.hb
      have hdl := stretches_len hB
      -- stretches
      refine nx_mk ?_
      refine q_n (evn_spread TS.cl_Spread TS.na_Spread_stretches (evq_var rfl hO) hB) fun d0 H8 nd0 s11 hd0 => ?_
      have hO8 := hO.mono s11
      -- for forth in (True, False)
      refine q_forT (xs := [.bl true, .bl false]) (Evl.eu_tup (Evl.ea_cons Evl.ev_c (Evl.ea_cons Evl.ev_c Evl.ea_nil)) (by show 2 ≤ 100000; decide)) (fun σ => ∃ y4 y5 y6 y7 y8, σ = [some (.ref a), some (.ref o), y2, some (.ref d0), y4, y5, y6, y7, y8, none, none, none]) ⟨_, _, _, _, _, rfl⟩ ?_ ?_
      · rintro v mv B σ' H9 sB ⟨y4, y5, y6, y7, y8, rfl⟩ s12
        have hv : ∃ fo, v = .bl fo := by
          simp only [List.mem_cons, List.not_mem_nil, or_false] at mv
          rcases mv with rfl | rfl <;> exact ⟨_, rfl⟩
        obtain ⟨fo, rfl⟩ := hv
        have hO9 := (hO8.mono sB).mono s12
        have hd9 := (hd0.mono sB).mono s12
        -- had, times
        refine ⟨_, rfl, _, rfl, o, hs, fo, rfl, hO9, k2, fun H10 t d e l tl s13 nt et nd ne ed ee g hl1 => ⟨t, _, rfl, SqT.of et, rfl, _, _, rfl, _, _, rfl, rfl, ?_⟩⟩
        obtain ⟨g1, g2, g3⟩ := g.end_ k2.pos
        have hl57 := k2.len1 g
        have ht57 := k2.len2 g
        have hk := k2.keys g
        have kl : (keysI l).length = l.length := by unfold keysI; rw [List.length_map]
        have hO10 := hO9.mono s13
        have hd10 := hd9.mono s13
        have s910 := s12.trans s13
        -- for place in sorted(had) + [..]
        refine nx_mk ?_
        have kne : keysI l ≠ [] := fun z => by rw [z] at kl; simp at kl; omega
        refine ⟨_, rfl, d, _, keysI l, rfl, .inl ed, ent_keys l, by omega, fun ys p hperm hsort np => ?_⟩
        have s14 := same_new (o := .lst (ys.map V.int)) np
        refine ⟨40, rfl, _, rfl, d, _, keysI l, rfl, s14 _ _ ed, ent_keys l, kne, fun mn hmn _ => ⟨_, _, rfl, rfl, _, rfl, d, _, keysI l, rfl, s14 _ _ ed, ent_keys l, kne, fun mx hmx _ => ⟨_, _, rfl, rfl, (by show 3 ≤ sizeLine; decide), fun p2 np2 => ?_⟩⟩⟩
        have s15 := same_new (o := .lst [.int (-40), .int (mn - 1), .int (mx + 1)]) np2
        refine ⟨p, p2, _, _, rfl, rfl, s15 _ _ upd_same, upd_same, Evl.sz_of ?_, fun p3 np3 => ?_⟩
        · have := hperm.length_eq
          rw [List.length_map]
          show ys.length + 3 ≤ 100000
          omega
        have s16 := same_new (o := .lst (ys.map V.int ++ [.int (-40), .int (mn - 1), .int (mx + 1)])) np3
        have s1016 := (s14.trans s15).trans s16
        have hz : ∀ v ∈ ys.map V.int ++ [.int (-40), .int (mn - 1), .int (mx + 1)], ∃ z : Int, v = .int z ∧ z.natAbs < 1000 := fun v mv => by
          have := hk mn hmn
          have := hk mx hmx
          rcases List.mem_append.mp mv with mv | mv
          · obtain ⟨z, mz, rfl⟩ := List.mem_map.mp mv
            have := hk z (hperm.mem_iff.mp mz)
            exact ⟨z, rfl, by omega⟩
          · simp only [List.mem_cons, List.not_mem_nil, or_false] at mv
            rcases mv with rfl | rfl | rfl
            · exact ⟨_, rfl, by decide⟩
            · exact ⟨_, rfl, by omega⟩
            · exact ⟨_, rfl, by omega⟩
        have ep3 : (upd (upd (upd H10 p (.lst (ys.map V.int))) p2 (.lst [.int (-40), .int (mn - 1), .int (mx + 1)])) p3 (.lst (ys.map V.int ++ [.int (-40), .int (mn - 1), .int (mx + 1)]))) p3 = some (.lst (ys.map V.int ++ [.int (-40), .int (mn - 1), .int (mx + 1)])) := upd_same
        refine ⟨p3, rfl, ⟨_, SqL.of ep3⟩, for_list (K := K) (a := p3) (xs := ys.map V.int ++ [.int (-40), .int (mn - 1), .int (mx + 1)]) (fun i σ H' => ∃ y7 y8, σ = [some (.ref a), some (.ref o), y2, some (.ref d0), some (.bl fo), some (.ref d), some (.ref e), y7, y8, none, none, none] ∧ Same _ H') ⟨_, _, rfl, Same.refl _⟩ (fun i σ H' _ hP => ?_) ?_ ?_⟩
        · obtain ⟨_, _, _, s17⟩ := hP
          exact SqL.of (s17 _ _ ep3)
        · rintro i v σ H11 hi ⟨y7, y8, rfl, s17⟩
          obtain ⟨z, rfl, hz⟩ := hz v (List.mem_of_getElem? hi)
          have s1011 := s1016.trans s17
          have ed11 := s1011 _ _ ed
          have ee11 := s1011 _ _ ee
          have hO11 := hO10.mono s1011
          have hd11 := hd10.mono s1011
          -- rest
          refine q_i (ev_dget2 rfl ed11 g.nd (Evl.ev_var rfl)) fun H12 s18 => ?_
          refine q_whenb (b := false) ?_ (fun z => nomatch z) (fun _ H13 s19 => ?_)
          · refine Evl.et_is (Evl.et_test (Evl.ev_op (ev_left (evq_var rfl (hO11.mono s18)) hB (Evl.ev_var rfl)) (Evl.ev_var rfl) rv_neI)) ?_
            rw [g1 z, decide_eq_true rfl]
            rfl
          have s20 := s18.trans s19
          refine q_whenb (b := false) ?_ (fun z => nomatch z) (fun _ H14 s21 => ?_)
          · refine Evl.et_is (Evl.et_test (Evl.ev_op (ev_anyL (bs := (stretches hs).map fun s => decide (s.1 ≤ z) && decide (z ≤ s.2)) ?_) (Evl.ev_op (Evl.ev_var rfl) Evl.ev_c rv_eqI) rv_neB)) ?_
            · rw [List.map_map]
              exact el_lcP0 (K := K) (V.bl ∘ fun s => decide (s.1 ≤ z) && decide (z ≤ s.2)) (evq_var rfl (hd11.mono s20)) (by omega) (fun _ _ => rfl) fun x _ => ev_chain (Evl.ev_var rfl) (Evl.ev_var rfl) (Evl.ev_var rfl)
            · have e1 : ((stretches hs).map fun s => decide (s.1 ≤ z) && decide (z ≤ s.2)).any id = hasB (stretches hs) z := by
                rw [List.any_map]
                rfl
              have e2 : decide (hadI l z = 1) = hasB (stretches hs) z := by
                rw [g1 z]
                cases hasB (stretches hs) z <;> rfl
              rw [e1, e2, decide_eq_true rfl]
              rfl
          have s22 := s20.trans s21
          refine if_b (b := false) ?_ (fun z => nomatch z) (fun _ H15 s23 => ⟨_, _, rfl, s17.trans (s22.trans s23)⟩)
          refine Evl.et_is (Evl.et_test (Evl.ev_op (ev_gave (evq_var rfl (hO11.mono s22)) hB (wd_small (by omega) (by decide)) (Evl.ev_var rfl)) (ev_dget2 rfl (s22 _ _ ee11) g.ndt (Evl.ev_var rfl)) rv_neI)) ?_
          rw [g2 z, decide_eq_true rfl]
          rfl
        · rintro σ H11 ⟨y7, y8, rfl, s17⟩
          have s1011 := s1016.trans s17
          refine nx_mk ?_
          refine if_b (b := false) ?_ (fun z => nomatch z) (fun _ H12 s18 => ⟨⟨_, _, _, _, _, rfl⟩, s910.trans (s1011.trans s18)⟩)
          refine Evl.et_is (Evl.et_test (Evl.ev_op (ev_all (evq_var rfl (hO10.mono s1011)) hB) (ev_sumItems rfl (s1011 _ _ ee) (by omega) (fun _ _ => rfl) (fun _ _ => rfl)) rv_neI)) ?_
          rw [g3, decide_eq_true rfl]
          rfl
      · rintro σ' H9 ⟨y4, y5, y6, y7, y8, rfl⟩ s12
        exact q _
end
end Wk
namespace Wk
open PySem PySem.Spec PyProof.Rows L2
theorem all_mk {l : PySem.W.OpenLaw} {w : World} {K : PySem.W.Frag} {h : Heap} {mg : Str → Option Value} {fa C_Spread f1 f2 f3 f4 f5 f6 f7 f8 f9 f10 f11 f12 f13 f14 f15 f16 f17 f18 f19 : Addr} (X : K.In h) (G : h.Ns mainGlobals mg) (hfa : mg "law" = some (.ref fa))
    {od1 an1 od2 an2 od3 an3 od4 an4 od5 an5 od6 an6 od7 an7 od8 an8 od9 an9 od10 an10 od11 an11 od12 an12 od13 an13 od14 an14 od15 an15 od16 an16 od17 an17 od18 an18 od19 an19 : Option Addr} {sl1 sl2 sl3 sl4 sl5 sl6 sl7 sl8 sl9 sl10 sl11 sl12 sl13 sl14 sl15 sl16 sl17 sl18 sl19 : Array (Option Value)} {oc1 kV1 dc1 pm1 cd1 ct1 oc2 kV2 dc2 pm2 cd2 ct2 oc3 kV3 dc3 pm3 cd3 ct3 oc4 kV4 dc4 pm4 cd4 ct4 oc5 kV5 dc5 pm5 cd5 ct5 oc6 kV6 dc6 pm6 cd6 ct6 oc7 kV7 dc7 pm7 cd7 ct7 oc8 kV8 dc8 pm8 cd8 ct8 oc9 kV9 dc9 pm9 cd9 ct9 oc10 kV10 dc10 pm10 cd10 ct10 oc11 kV11 dc11 pm11 cd11 ct11 oc12 kV12 dc12 pm12 cd12 ct12 oc13 kV13 dc13 pm13 cd13 ct13 oc14 kV14 dc14 pm14 cd14 ct14 oc15 kV15 dc15 pm15 cd15 ct15 oc16 kV16 dc16 pm16 cd16 ct16 oc17 kV17 dc17 pm17 cd17 ct17 oc18 kV18 dc18 pm18 cd18 ct18 oc19 kV19 dc19 pm19 cd19 ct19 : Value}
    (a1 : PySem.W.nsIn K mainGlobals "law" = some (some (.ref f1)))
    (l1 : K.lookup f1 = some ⟨oc1, od1, .func (PySem.W.fnOf "law" "law" (defArgs st_law) (defBody st_law) (defScope st_law) .none kV1 dc1 pm1 an1 cd1 ct1), sl1⟩)
    (c1 : PySem.W.codeIn K cd1 "law" = true)
    (k1 : PySem.W.keepIn K (.ref f1) = true)
    (a2 : PySem.W.nsIn K mainGlobals "spread" = some (some (.ref f2)))
    (l2 : K.lookup f2 = some ⟨oc2, od2, .func (PySem.W.fnOf "spread" "spread" (defArgs st_spread) (defBody st_spread) (defScope st_spread) .none kV2 dc2 pm2 an2 cd2 ct2), sl2⟩)
    (c2 : PySem.W.codeIn K cd2 "spread" = true)
    (k2 : PySem.W.keepIn K (.ref f2) = true)
    (a3 : PySem.W.nsIn K mainGlobals "_law_given" = some (some (.ref f3)))
    (l3 : K.lookup f3 = some ⟨oc3, od3, .func (PySem.W.fnOf "_law_given" "_law_given" (defArgs st__law_given) (defBody st__law_given) (defScope st__law_given) .none kV3 dc3 pm3 an3 cd3 ct3), sl3⟩)
    (c3 : PySem.W.codeIn K cd3 "_law_given" = true)
    (k3 : PySem.W.keepIn K (.ref f3) = true)
    (a4 : PySem.W.nsIn K mainGlobals "_law_draw" = some (some (.ref f4)))
    (l4 : K.lookup f4 = some ⟨oc4, od4, .func (PySem.W.fnOf "_law_draw" "_law_draw" (defArgs st__law_draw) (defBody st__law_draw) (defScope st__law_draw) .none kV4 dc4 pm4 an4 cd4 ct4), sl4⟩)
    (c4 : PySem.W.codeIn K cd4 "_law_draw" = true)
    (k4 : PySem.W.keepIn K (.ref f4) = true)
    (a5 : PySem.W.nsIn K mainGlobals "all_gave" = some (some (.ref f5)))
    (l5 : K.lookup f5 = some ⟨oc5, od5, .func (PySem.W.fnOf "all_gave" "all_gave" (defArgs st_all_gave) (defBody st_all_gave) (defScope st_all_gave) .none kV5 dc5 pm5 an5 cd5 ct5), sl5⟩)
    (c5 : PySem.W.codeIn K cd5 "all_gave" = true)
    (k5 : PySem.W.keepIn K (.ref f5) = true)
    (a6 : PySem.W.nsIn K mainGlobals "_law_cell_at" = some (some (.ref f6)))
    (l6 : K.lookup f6 = some ⟨oc6, od6, .func (PySem.W.fnOf "_law_cell_at" "_law_cell_at" (defArgs st__law_cell_at) (defBody st__law_cell_at) (defScope st__law_cell_at) .none kV6 dc6 pm6 an6 cd6 ct6), sl6⟩)
    (c6 : PySem.W.codeIn K cd6 "_law_cell_at" = true)
    (k6 : PySem.W.keepIn K (.ref f6) = true)
    (a7 : PySem.W.nsIn K mainGlobals "left" = some (some (.ref f7)))
    (l7 : K.lookup f7 = some ⟨oc7, od7, .func (PySem.W.fnOf "left" "left" (defArgs st_left) (defBody st_left) (defScope st_left) .none kV7 dc7 pm7 an7 cd7 ct7), sl7⟩)
    (c7 : PySem.W.codeIn K cd7 "left" = true)
    (k7 : PySem.W.keepIn K (.ref f7) = true)
    (a8 : PySem.W.nsIn K mainGlobals "gave" = some (some (.ref f8)))
    (l8 : K.lookup f8 = some ⟨oc8, od8, .func (PySem.W.fnOf "gave" "gave" (defArgs st_gave) (defBody st_gave) (defScope st_gave) .none kV8 dc8 pm8 an8 cd8 ct8), sl8⟩)
    (c8 : PySem.W.codeIn K cd8 "gave" = true)
    (k8 : PySem.W.keepIn K (.ref f8) = true)
    (a9 : PySem.W.nsIn K mainGlobals "check_heaps" = some (some (.ref f9)))
    (l9 : K.lookup f9 = some ⟨oc9, od9, .func (PySem.W.fnOf "check_heaps" "check_heaps" (defArgs st_check_heaps) (defBody st_check_heaps) (defScope st_check_heaps) .none kV9 dc9 pm9 an9 cd9 ct9), sl9⟩)
    (c9 : PySem.W.codeIn K cd9 "check_heaps" = true)
    (k9 : PySem.W.keepIn K (.ref f9) = true)
    (a10 : PySem.W.nsIn K mainGlobals "stretches_of" = some (some (.ref f10)))
    (l10 : K.lookup f10 = some ⟨oc10, od10, .func (PySem.W.fnOf "stretches_of" "stretches_of" (defArgs st_stretches_of) (defBody st_stretches_of) (defScope st_stretches_of) .none kV10 dc10 pm10 an10 cd10 ct10), sl10⟩)
    (c10 : PySem.W.codeIn K cd10 "stretches_of" = true)
    (k10 : PySem.W.keepIn K (.ref f10) = true)
    (a11 : PySem.W.nsIn K mainGlobals "squares_to" = some (some (.ref f11)))
    (l11 : K.lookup f11 = some ⟨oc11, od11, .func (PySem.W.fnOf "squares_to" "squares_to" (defArgs st_squares_to) (defBody st_squares_to) (defScope st_squares_to) .none kV11 dc11 pm11 an11 cd11 ct11), sl11⟩)
    (c11 : PySem.W.codeIn K cd11 "squares_to" = true)
    (k11 : PySem.W.keepIn K (.ref f11) = true)
    (a12 : PySem.W.nsIn K mainGlobals "check_place" = some (some (.ref f12)))
    (l12 : K.lookup f12 = some ⟨oc12, od12, .func (PySem.W.fnOf "check_place" "check_place" (defArgs st_check_place) (defBody st_check_place) (defScope st_check_place) .none kV12 dc12 pm12 an12 cd12 ct12), sl12⟩)
    (c12 : PySem.W.codeIn K cd12 "check_place" = true)
    (k12 : PySem.W.keepIn K (.ref f12) = true)
    (a13 : PySem.W.nsIn K mainGlobals "is_heap" = some (some (.ref f13)))
    (l13 : K.lookup f13 = some ⟨oc13, od13, .func (PySem.W.fnOf "is_heap" "is_heap" (defArgs st_is_heap) (defBody st_is_heap) (defScope st_is_heap) .none kV13 dc13 pm13 an13 cd13 ct13), sl13⟩)
    (c13 : PySem.W.codeIn K cd13 "is_heap" = true)
    (k13 : PySem.W.keepIn K (.ref f13) = true)
    (a14 : PySem.W.nsIn K mainGlobals "_wall" = some (some (.ref f14)))
    (l14 : K.lookup f14 = some ⟨oc14, od14, .func (PySem.W.fnOf "_wall" "_wall" (defArgs st__wall) (defBody st__wall) (defScope st__wall) .none kV14 dc14 pm14 an14 cd14 ct14), sl14⟩)
    (c14 : PySem.W.codeIn K cd14 "_wall" = true)
    (k14 : PySem.W.keepIn K (.ref f14) = true)
    (a15 : PySem.W.nsIn K mainGlobals "clusters_of" = some (some (.ref f15)))
    (l15 : K.lookup f15 = some ⟨oc15, od15, .func (PySem.W.fnOf "clusters_of" "clusters_of" (defArgs st_clusters_of) (defBody st_clusters_of) (defScope st_clusters_of) .none kV15 dc15 pm15 an15 cd15 ct15), sl15⟩)
    (c15 : PySem.W.codeIn K cd15 "clusters_of" = true)
    (k15 : PySem.W.keepIn K (.ref f15) = true)
    (a16 : PySem.W.nsIn K mainGlobals "is_whole" = some (some (.ref f16)))
    (l16 : K.lookup f16 = some ⟨oc16, od16, .func (PySem.W.fnOf "is_whole" "is_whole" (defArgs st_is_whole) (defBody st_is_whole) (defScope st_is_whole) .none kV16 dc16 pm16 an16 cd16 ct16), sl16⟩)
    (c16 : PySem.W.codeIn K cd16 "is_whole" = true)
    (k16 : PySem.W.keepIn K (.ref f16) = true)
    (a17 : PySem.W.nsIn K mainGlobals "ends_of" = some (some (.ref f17)))
    (l17 : K.lookup f17 = some ⟨oc17, od17, .func (PySem.W.fnOf "ends_of" "ends_of" (defArgs st_ends_of) (defBody st_ends_of) (defScope st_ends_of) .none kV17 dc17 pm17 an17 cd17 ct17), sl17⟩)
    (c17 : PySem.W.codeIn K cd17 "ends_of" = true)
    (k17 : PySem.W.keepIn K (.ref f17) = true)
    (aC_Spread : PySem.W.nsIn K mainGlobals "Spread" = some (some (.ref C_Spread)))
    (a18 : PySem.W.findIn K (.ref C_Spread) "__init__" = some (some (.ref f18)))
    (i18 : PySem.W.isFn K (.ref f18) = true)
    (l18 : K.lookup f18 = some ⟨oc18, od18, .func (PySem.W.fnOf "__init__" "Spread.__init__" (defArgs st_Spread_init) (defBody st_Spread_init) (defScope st_Spread_init) .none kV18 dc18 pm18 an18 cd18 ct18), sl18⟩)
    (c18 : PySem.W.codeIn K cd18 "Spread.__init__" = true)
    (k18 : PySem.W.keepIn K (.ref f18) = true)
    (a19 : PySem.W.findIn K (.ref C_Spread) "shows" = some (some (.ref f19)))
    (i19 : PySem.W.isFn K (.ref f19) = true)
    (l19 : K.lookup f19 = some ⟨oc19, od19, .func (PySem.W.fnOf "shows" "Spread.shows" (defArgs st_Spread_shows) (defBody st_Spread_shows) (defScope st_Spread_shows) .none kV19 dc19 pm19 an19 cd19 ct19), sl19⟩)
    (c19 : PySem.W.codeIn K cd19 "Spread.shows" = true)
    (k19 : PySem.W.keepIn K (.ref f19) = true)
    (pg_Spread : PySem.W.plainGet K C_Spread Str.empty = true)
    (hd_Spread : PySem.W.hasDictIn K C_Spread = true)
    (po_Spread : PySem.W.plainOver K C_Spread = true)
    (sa_Spread : PySem.W.findIn K (.ref C_Spread) "__setattr__" = some (some (.builtin "object.__setattr__")))
    (mk_Spread : PySem.W.makesIn K C_Spread = true)
    (kc_Spread : PySem.W.keepIn K (.ref C_Spread) = true)
    (nf_Spread_stretches : PySem.W.findIn K (.ref C_Spread) "stretches" = some none)
    (z_range : PySem.W.nsIn K mainGlobals "range" = some none)
    (z_min : PySem.W.nsIn K mainGlobals "min" = some none)
    (z_len : PySem.W.nsIn K mainGlobals "len" = some none)
    (z_sorted : PySem.W.nsIn K mainGlobals "sorted" = some none)
    (z_sum : PySem.W.nsIn K mainGlobals "sum" = some none)
    (z_any : PySem.W.nsIn K mainGlobals "any" = some none)
    (z_max : PySem.W.nsIn K mainGlobals "max" = some none)
    (z_isinstance : PySem.W.nsIn K mainGlobals "isinstance" = some none)
    (z_list : PySem.W.nsIn K mainGlobals "list" = some none)
    (z_all : PySem.W.nsIn K mainGlobals "all" = some none)
    (z_tuple : PySem.W.nsIn K mainGlobals "tuple" = some none)
    (z_int : PySem.W.nsIn K mainGlobals "int" = some none)
    (z_bool : PySem.W.nsIn K mainGlobals "bool" = some none)
    (z_divmod : PySem.W.nsIn K mainGlobals "divmod" = some none) :
    ∃ fd : FuncData, (∀ (s : Shared) (v : Value), BindsTo s fd ⟨[v], []⟩ [("_law_script", v)]) ∧ ∀ base : Heap, K.In base → base.Ns mainGlobals mg → FnOk l.prog w K mg base CX0 5 fa fd ["_law_script"] (spLaw K) := by
  have e := hfa.symm.trans (PySem.W.mg_of X G a1)
  cases e
  have F1 := fun_mk (st := st_law) l1 c1 k1
  have F2 := fun_mk (st := st_spread) l2 c2 k2
  have b2 := F2.binds (ps := ["heaps"]) fun _ _ _ _ _ _ us hl => match us, hl with | [_], _ => rfl
  have F3 := fun_mk (st := st__law_given) l3 c3 k3
  have b3 := F3.binds (ps := ["_law_heaps", "_law_forth"]) fun _ _ _ _ _ _ us hl => match us, hl with | [_, _], _ => rfl
  have F4 := fun_mk (st := st__law_draw) l4 c4 k4
  have b4 := F4.binds (ps := ["_law_cell", "_law_k", "_law_many"]) fun _ _ _ _ _ _ us hl => match us, hl with | [_, _, _], _ => rfl
  have F5 := fun_mk (st := st_all_gave) l5 c5 k5
  have b5 := F5.binds (ps := ["heaps"]) fun _ _ _ _ _ _ us hl => match us, hl with | [_], _ => rfl
  have F6 := fun_mk (st := st__law_cell_at) l6 c6 k6
  have b6 := F6.binds (ps := ["_law_script", "_law_k"]) fun _ _ _ _ _ _ us hl => match us, hl with | [_, _], _ => rfl
  have F7 := fun_mk (st := st_left) l7 c7 k7
  have b7 := F7.binds (ps := ["heaps", "place"]) fun _ _ _ _ _ _ us hl => match us, hl with | [_, _], _ => rfl
  have F8 := fun_mk (st := st_gave) l8 c8 k8
  have b8 := F8.binds (ps := ["heaps", "place"]) fun _ _ _ _ _ _ us hl => match us, hl with | [_, _], _ => rfl
  have F9 := fun_mk (st := st_check_heaps) l9 c9 k9
  have b9 := F9.binds (ps := ["heaps"]) fun _ _ _ _ _ _ us hl => match us, hl with | [_], _ => rfl
  have F10 := fun_mk (st := st_stretches_of) l10 c10 k10
  have b10 := F10.binds (ps := ["heaps"]) fun _ _ _ _ _ _ us hl => match us, hl with | [_], _ => rfl
  have F11 := fun_mk (st := st_squares_to) l11 c11 k11
  have b11 := F11.binds (ps := ["place"]) fun _ _ _ _ _ _ us hl => match us, hl with | [_], _ => rfl
  have F12 := fun_mk (st := st_check_place) l12 c12 k12
  have b12 := F12.binds (ps := ["place"]) fun _ _ _ _ _ _ us hl => match us, hl with | [_], _ => rfl
  have F13 := fun_mk (st := st_is_heap) l13 c13 k13
  have b13 := F13.binds (ps := ["thing"]) fun _ _ _ _ _ _ us hl => match us, hl with | [_], _ => rfl
  have F14 := fun_mk (st := st__wall) l14 c14 k14
  have b14 := F14.binds (ps := ["k"]) fun _ _ _ _ _ _ us hl => match us, hl with | [_], _ => rfl
  have F15 := fun_mk (st := st_clusters_of) l15 c15 k15
  have b15 := F15.binds (ps := ["heaps"]) fun _ _ _ _ _ _ us hl => match us, hl with | [_], _ => rfl
  have F16 := fun_mk (st := st_is_whole) l16 c16 k16
  have b16 := F16.binds (ps := ["thing"]) fun _ _ _ _ _ _ us hl => match us, hl with | [_], _ => rfl
  have F17 := fun_mk (st := st_ends_of) l17 c17 k17
  have b17 := F17.binds (ps := ["many", "balance"]) fun _ _ _ _ _ _ us hl => match us, hl with | [_, _], _ => rfl
  have F18 := fun_mk (st := st_Spread_init) l18 c18 k18
  have b18 := F18.binds (ps := ["self", "stretches"]) fun _ _ _ _ _ _ us hl => match us, hl with | [_, _], _ => rfl
  have F19 := fun_mk (st := st_Spread_shows) l19 c19 k19
  have b19 := F19.binds (ps := ["self", "heaps"]) fun _ _ _ _ _ _ us hl => match us, hl with | [_, _], _ => rfl
  have T : Top K mg :=
    { d_spread := ⟨_, _, F2, PySem.W.mg_of X G a2, b2⟩,
      d__law_given := ⟨_, _, F3, PySem.W.mg_of X G a3, b3⟩,
      d__law_draw := ⟨_, _, F4, PySem.W.mg_of X G a4, b4⟩,
      d_all_gave := ⟨_, _, F5, PySem.W.mg_of X G a5, b5⟩,
      d__law_cell_at := ⟨_, _, F6, PySem.W.mg_of X G a6, b6⟩,
      d_left := ⟨_, _, F7, PySem.W.mg_of X G a7, b7⟩,
      d_gave := ⟨_, _, F8, PySem.W.mg_of X G a8, b8⟩,
      d_check_heaps := ⟨_, _, F9, PySem.W.mg_of X G a9, b9⟩,
      d_stretches_of := ⟨_, _, F10, PySem.W.mg_of X G a10, b10⟩,
      d_squares_to := ⟨_, _, F11, PySem.W.mg_of X G a11, b11⟩,
      d_check_place := ⟨_, _, F12, PySem.W.mg_of X G a12, b12⟩,
      d_is_heap := ⟨_, _, F13, PySem.W.mg_of X G a13, b13⟩,
      d__wall := ⟨_, _, F14, PySem.W.mg_of X G a14, b14⟩,
      d_clusters_of := ⟨_, _, F15, PySem.W.mg_of X G a15, b15⟩,
      d_is_whole := ⟨_, _, F16, PySem.W.mg_of X G a16, b16⟩,
      d_ends_of := ⟨_, _, F17, PySem.W.mg_of X G a17, b17⟩,
      m_range := PySem.W.mg_none_of X G z_range,
      m_min := PySem.W.mg_none_of X G z_min,
      m_len := PySem.W.mg_none_of X G z_len,
      m_sorted := PySem.W.mg_none_of X G z_sorted,
      m_sum := PySem.W.mg_none_of X G z_sum,
      m_any := PySem.W.mg_none_of X G z_any,
      m_max := PySem.W.mg_none_of X G z_max,
      m_isinstance := PySem.W.mg_none_of X G z_isinstance,
      m_list := PySem.W.mg_none_of X G z_list,
      m_all := PySem.W.mg_none_of X G z_all,
      m_tuple := PySem.W.mg_none_of X G z_tuple,
      m_int := PySem.W.mg_none_of X G z_int,
      m_bool := PySem.W.mg_none_of X G z_bool,
      m_divmod := PySem.W.mg_none_of X G z_divmod }
  have T_Spread : Top_Spread K mg C_Spread :=
    { g_Spread := PySem.W.mg_of X G aC_Spread,
      cl_Spread := ⟨pg_Spread, hd_Spread, po_Spread, sa_Spread⟩,
      na_Spread_stretches := nf_Spread_stretches,
      i_Spread := ⟨_, _, F18, ⟨mk_Spread, a18, i18, kc_Spread⟩, b18⟩,
      e_Spread_shows := ⟨_, _, F19, ⟨a19, i19, k19⟩, b19⟩ }
  exact ⟨PySem.W.fnOf "law" "law" (defArgs st_law) (defBody st_law) (defScope st_law) .none kV1 dc1 pm1 an1 cd1 ct1, fun s v => .of_eq rfl, fun base _ _ => ok_law F1 T T_Spread⟩
end Wk
open PySem PySem.W PyProof.Rows
set_option maxRecDepth 100000 in
set_option maxHeartbeats 0 in
theorem PySem.Challenge.cw_spreadrow_k02_whole_step_by_step_holds : PySem.Challenge.rw_spreadrow_k02_whole_step_by_step.Holds := by
  w_on; o_law; k_head; (case hw => w_witness2)
  k_fill
  refine L2.walk_of (l := PySem.Challenge.rw_spreadrow_k02_whole_step_by_step) (n := 63) (k := 5) (x := "_law_script") (CX := fun _ => L2.CX0) (sp := fun w => Wk.spLaw _) rfl (by decide) rfl ⟨rfl, by decide, by decide⟩ (fun w h Y => PySem.W.kIn_of Y) ?F (fun _ _ a ns hl _ hS => ⟨a, ns, rfl, hS, hl, fun _ => rfl⟩) (fun _ _ _ _ _ h => h)
  case F =>
    intro w mg fa h KX G hmg
    refine' Wk.all_mk KX G hmg ?a1 ?l1 ?c1 ?k1 ?a2 ?l2 ?c2 ?k2 ?a3 ?l3 ?c3 ?k3 ?a4 ?l4 ?c4 ?k4 ?a5 ?l5 ?c5 ?k5 ?a6 ?l6 ?c6 ?k6 ?a7 ?l7 ?c7 ?k7 ?a8 ?l8 ?c8 ?k8 ?a9 ?l9 ?c9 ?k9 ?a10 ?l10 ?c10 ?k10 ?a11 ?l11 ?c11 ?k11 ?a12 ?l12 ?c12 ?k12 ?a13 ?l13 ?c13 ?k13 ?a14 ?l14 ?c14 ?k14 ?a15 ?l15 ?c15 ?k15 ?a16 ?l16 ?c16 ?k16 ?a17 ?l17 ?c17 ?k17 ?aC_Spread ?a18 ?i18 ?l18 ?c18 ?k18 ?a19 ?i19 ?l19 ?c19 ?k19 ?pg_Spread ?hd_Spread ?po_Spread ?sa_Spread ?mk_Spread ?kc_Spread ?nf_Spread_stretches ?z_range ?z_min ?z_len ?z_sorted ?z_sum ?z_any ?z_max ?z_isinstance ?z_list ?z_all ?z_tuple ?z_int ?z_bool ?z_divmod
    (case a1 => k_is)
    (case l1 => k_is)
    (case c1 => k_is)
    (case k1 => k_is)
    (case a2 => k_is)
    (case l2 => k_is)
    (case c2 => k_is)
    (case k2 => k_is)
    (case a3 => k_is)
    (case l3 => k_is)
    (case c3 => k_is)
    (case k3 => k_is)
    (case a4 => k_is)
    (case l4 => k_is)
    (case c4 => k_is)
    (case k4 => k_is)
    (case a5 => k_is)
    (case l5 => k_is)
    (case c5 => k_is)
    (case k5 => k_is)
    (case a6 => k_is)
    (case l6 => k_is)
    (case c6 => k_is)
    (case k6 => k_is)
    (case a7 => k_is)
    (case l7 => k_is)
    (case c7 => k_is)
    (case k7 => k_is)
    (case a8 => k_is)
    (case l8 => k_is)
    (case c8 => k_is)
    (case k8 => k_is)
    (case a9 => k_is)
    (case l9 => k_is)
    (case c9 => k_is)
    (case k9 => k_is)
    (case a10 => k_is)
    (case l10 => k_is)
    (case c10 => k_is)
    (case k10 => k_is)
    (case a11 => k_is)
    (case l11 => k_is)
    (case c11 => k_is)
    (case k11 => k_is)
    (case a12 => k_is)
    (case l12 => k_is)
    (case c12 => k_is)
    (case k12 => k_is)
    (case a13 => k_is)
    (case l13 => k_is)
    (case c13 => k_is)
    (case k13 => k_is)
    (case a14 => k_is)
    (case l14 => k_is)
    (case c14 => k_is)
    (case k14 => k_is)
    (case a15 => k_is)
    (case l15 => k_is)
    (case c15 => k_is)
    (case k15 => k_is)
    (case a16 => k_is)
    (case l16 => k_is)
    (case c16 => k_is)
    (case k16 => k_is)
    (case a17 => k_is)
    (case l17 => k_is)
    (case c17 => k_is)
    (case k17 => k_is)
    (case aC_Spread => k_is)
    (case a18 => k_is)
    (case i18 => k_is)
    (case l18 => k_is)
    (case c18 => k_is)
    (case k18 => k_is)
    (case a19 => k_is)
    (case i19 => k_is)
    (case l19 => k_is)
    (case c19 => k_is)
    (case k19 => k_is)
    (case pg_Spread => k_is)
    (case hd_Spread => k_is)
    (case po_Spread => k_is)
    (case sa_Spread => k_is)
    (case mk_Spread => k_is)
    (case kc_Spread => k_is)
    (case nf_Spread_stretches => k_is)
    (case z_range => k_is)
    (case z_min => k_is)
    (case z_len => k_is)
    (case z_sorted => k_is)
    (case z_sum => k_is)
    (case z_any => k_is)
    (case z_max => k_is)
    (case z_isinstance => k_is)
    (case z_list => k_is)
    (case z_all => k_is)
    (case z_tuple => k_is)
    (case z_int => k_is)
    (case z_bool => k_is)
    (case z_divmod => k_is)

