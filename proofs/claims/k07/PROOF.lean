import PyProof.Rows.All
import Wide.All
import OpenK.AllK
import Wide.FinOn
import HandS.ForMost
import HandS.ForExc
import HandS.Wide
import HandS.WideBits
import HandS.SortRule
import HandS.Codes
import HandS.IsInst
import HandS.Style
import HandS.SetFor
import HandS.SortInts
import HandS.TupSets
import HandS.ExcIs
import HandS.TryMany
import HandS.StrMore
import HandS.Zip
import HandS.Evl
import HandS.Walk
import HandS.Conv
import PySem.Challenge.RW_spreadrow_k07_refused
set_option Elab.async false
set_option linter.all false
set_option maxRecDepth 100000
set_option maxHeartbeats 4000000
/-! Plain law, part A: potentials of heaps on the line, legal giving (Reach), least action, uniqueness. No program in sight. -/
namespace Spr
/-- how many a place has, by the potential -/
def lap (F : Int → Int) (x : Int) : Int := F (x - 1) + F (x + 1) - 2 * F x
/-- a place gives once -/
def fire (F : Int → Int) (x : Int) : Int → Int := fun p => if p = x then F p + 1 else F p
inductive Reach : (Int → Int) → (Int → Int) → Prop where
  | refl (F : Int → Int) : Reach F F
  | step (F G : Int → Int) (x : Int) : 2 ≤ lap F x → Reach (fire F x) G → Reach F G
def padd (F C : Int → Int) : Int → Int := fun p => F p + C p
theorem Reach.of_eq {F G : Int → Int} (h : ∀ p, F p = G p) : Reach F G := by
  have e : F = G := funext h
  rw [e]
  exact .refl G
theorem Reach.trans {F G H : Int → Int} (a : Reach F G) (b : Reach G H) : Reach F H := by
  induction a with
  | refl F => exact b
  | step F G x h r ih => exact .step F H x h (ih b)
theorem Reach.le {F G : Int → Int} (a : Reach F G) : ∀ p, F p ≤ G p := by
  induction a with
  | refl F => intro p; exact Int.le_refl _
  | step F G x h r ih =>
    intro p
    have q := ih p
    unfold fire at q
    split at q <;> omega
theorem Reach.add {F G : Int → Int} (a : Reach F G) (C : Int → Int) (hC : ∀ x, 0 ≤ lap C x) : Reach (padd F C) (padd G C) := by
  induction a with
  | refl F => exact .refl _
  | step F G x h r ih =>
    refine .step _ _ x ?_ ?_
    · have q := hC x
      unfold lap padd at *
      omega
    · have e : fire (padd F C) x = padd (fire F x) C := by
        funext p
        unfold fire padd
        dsimp only
        split <;> omega
      rw [e]
      exact ih
theorem least {F G H : Int → Int} (a : Reach F G) (hF : ∀ p, F p ≤ H p) (hH : ∀ p, lap H p ≤ 1) : ∀ p, G p ≤ H p := by
  induction a with
  | refl F => exact hF
  | step F G x h r ih =>
    refine ih fun p => ?_
    unfold fire
    split
    · next e =>
      subst e
      have h1 := hF (p - 1)
      have h2 := hF (p + 1)
      have h3 := hF p
      have h4 := hH p
      unfold lap at *
      omega
    · exact hF p
theorem uniq {F G H : Int → Int} (a : Reach F G) (b : Reach F H) (hG : ∀ p, lap G p ≤ 1) (hH : ∀ p, lap H p ≤ 1) : G = H := by
  funext p
  have h1 := least a b.le hH p
  have h2 := least b a.le hG p
  omega
theorem Reach.eq_left {F F' G : Int → Int} (h : ∀ p, F p = F' p) (a : Reach F' G) : Reach F G := (Reach.of_eq h).trans a
theorem Reach.eq_right {F G G' : Int → Int} (a : Reach F G) (h : ∀ p, G p = G' p) : Reach F G' := a.trans (Reach.of_eq h)

/-! ### triangles -/
def tri (m : Int) : Int := m * (m + 1) / 2
theorem tri_two (m : Int) : 2 * tri m = m * (m + 1) := by
  unfold tri
  have h : m % 2 = 0 ∨ m % 2 = 1 := by omega
  have e : (m * (m + 1)) % 2 = 0 := by
    rcases h with h | h
    · rw [Int.mul_emod, h]; simp
    · rw [Int.mul_emod]
      have : (m + 1) % 2 = 0 := by omega
      rw [this]; simp
  omega
theorem tri_succ (m : Int) : tri (m + 1) = tri m + (m + 1) := by
  have h1 := tri_two m
  have h2 := tri_two (m + 1)
  have e : (m + 1) * (m + 1 + 1) = m * (m + 1) + 2 * (m + 1) := by grind
  omega
theorem tri_pred (m : Int) : tri (m - 1) = tri m - m := by
  have h := tri_succ (m - 1)
  rw [Int.sub_add_cancel] at h
  omega
theorem tri_zero : tri 0 = 0 := rfl
/-- the potential of one each at l and at all places above it -/
def up (l p : Int) : Int := if p ≤ l then 0 else tri (p - l)
theorem up_low {l p : Int} (h : p ≤ l) : up l p = 0 := by unfold up; rw [if_pos h]
theorem up_high {l p : Int} (h : l ≤ p) : up l p = tri (p - l) := by
  unfold up
  split
  · have : p - l = 0 := by omega
    rw [this]; rfl
  · rfl
/-- one at x -/
def chip (x p : Int) : Int := if p ≤ x then 0 else p - x
theorem chip_up (x p : Int) : chip x p = up x p - up (x + 1) p := by
  unfold chip
  by_cases h : p ≤ x
  · rw [if_pos h, up_low h, up_low (by omega)]; rfl
  · rw [if_neg h, up_high (by omega), up_high (by omega)]
    have := tri_pred (p - x)
    have e : p - (x + 1) = p - x - 1 := by omega
    rw [e]
    omega
theorem lap_up (l p : Int) : lap (up l) p = if l ≤ p then 1 else 0 := by
  unfold lap
  by_cases h : p + 1 ≤ l
  · rw [up_low h, up_low (by omega), up_low (by omega), if_neg (by omega)]; rfl
  · rw [if_pos (by omega), up_high (l := l) (p := p + 1) (by omega), up_high (l := l) (p := p) (by omega)]
    have e : p + 1 - l = p - l + 1 := by omega
    rw [e, tri_succ]
    by_cases h2 : l < p
    · rw [up_high (by omega)]
      have e2 : p - 1 - l = p - l - 1 := by omega
      rw [e2, tri_pred]
      omega
    · rw [up_low (by omega)]
      have e3 : p - l = 0 := by omega
      rw [e3, tri_zero]
      rfl
/-- one each from l to r -/
def iv (l r p : Int) : Int := up l p - up (r + 1) p
theorem iv_chip (x p : Int) : iv x x p = chip x p := (chip_up x p).symm
theorem lap_iv {l r : Int} (h : l ≤ r + 1) (p : Int) : lap (iv l r) p = if l ≤ p ∧ p ≤ r then 1 else 0 := by
  have e : lap (iv l r) p = lap (up l) p - lap (up (r + 1)) p := by
    unfold lap iv
    omega
  rw [e, lap_up, lap_up]
  by_cases h1 : l ≤ p
  · by_cases h2 : p ≤ r
    · rw [if_pos h1, if_neg (by omega), if_pos ⟨h1, h2⟩]; rfl
    · rw [if_pos h1, if_pos (by omega), if_neg (by omega)]; rfl
  · rw [if_neg h1, if_neg (by omega), if_neg (by omega)]; rfl
theorem lap_chip (x p : Int) : lap (chip x) p = if p = x then 1 else 0 := by
  have e : chip x = iv x x := funext fun p => (iv_chip x p).symm
  rw [e, lap_iv (by omega)]
  by_cases h : p = x
  · rw [if_pos h, if_pos (by omega)]
  · rw [if_neg h, if_neg (by omega)]
theorem lap_padd (F C : Int → Int) (p : Int) : lap (padd F C) p = lap F p + lap C p := by
  unfold lap padd
  omega
theorem chip_cvx (x p : Int) : 0 ≤ lap (chip x) p := by rw [lap_chip]; split <;> omega
theorem iv_cvx {l r : Int} (h : l ≤ r + 1) (p : Int) : 0 ≤ lap (iv l r) p := by rw [lap_iv h]; split <;> omega
theorem padd_cvx {F C : Int → Int} (hF : ∀ p, 0 ≤ lap F p) (hC : ∀ p, 0 ≤ lap C p) (p : Int) : 0 ≤ lap (padd F C) p := by
  rw [lap_padd]
  have := hF p
  have := hC p
  omega
theorem chip_fire (x p : Int) : chip (x - 1) p + chip (x + 1) p = 2 * chip x p + (if p = x then 1 else 0) := by
  unfold chip
  split <;> split <;> split <;> split <;> omega
/-- a full block with one more within it: what it gives way to -/
theorem block : ∀ (n : Nat) (l m x : Int), (m - l + 1).toNat = n → l ≤ x → x ≤ m →
    Reach (padd (iv l m) (chip x)) (fun p => iv (l - 1) (m + 1) p - chip (l + m - x) p) := by
  intro n
  induction n using Nat.strongRecOn with
  | ind n ih =>
    intro l m x hn hl hm
    -- give at x
    refine .step _ _ x ?_ ?_
    · rw [lap_padd, lap_iv (by omega), lap_chip, if_pos ⟨hl, hm⟩, if_pos rfl]
      omega
    -- the left side
    have a1 : Reach (padd (iv l (x - 1)) (chip (x - 1))) (fun p => iv (l - 1) x p - chip l p) := by
      by_cases hx : l = x
      · subst hx
        refine .of_eq fun p => ?_
        unfold padd iv
        rw [chip_up, chip_up, show l - 1 + 1 = l by omega]
        omega
      · have q := ih (x - 1 - l + 1).toNat (by omega) l (x - 1) (x - 1) rfl (by omega) (by omega)
        rw [show x - 1 + 1 = x by omega, show l + (x - 1) - (x - 1) = l by omega] at q
        exact q
    have a2 : Reach (padd (iv (l + 1) m) (chip (x + 1))) (fun p => iv l (m + 1) p - chip (l + m - x) p) := by
      by_cases hx : x = m
      · subst hx
        refine .of_eq fun p => ?_
        unfold padd iv
        rw [chip_up, chip_up, show l + x - x = l by omega]
        omega
      · have q := ih (m - (l + 1) + 1).toNat (by omega) (l + 1) m (x + 1) rfl (by omega) (by omega)
        rw [show l + 1 - 1 = l by omega, show l + 1 + m - (x + 1) = l + m - x by omega] at q
        exact q
    have b1 := a1.add (padd (chip (x + 1)) (iv (x + 1) m)) (padd_cvx (chip_cvx _) (iv_cvx (by omega)))
    have b2 := a2.add (chip (l - 1)) (chip_cvx _)
    refine Reach.eq_left ?_ (b1.trans (Reach.eq_left ?_ (b2.eq_right ?_)))
    · intro p
      have f := chip_fire x p
      unfold fire padd iv
      rw [chip_up x] at *
      rw [show x - 1 + 1 = x by omega]
      split
      · next e => rw [if_pos e] at f; omega
      · next e => rw [if_neg e] at f; omega
    · intro p
      unfold padd iv
      dsimp only
      rw [chip_up l, chip_up (l - 1), show l - 1 + 1 = l by omega]
      omega
    · intro p
      unfold padd iv
      dsimp only
      rw [chip_up (l - 1), show l - 1 + 1 = l by omega]
      omega
end Spr
/-! Plain law, part B: clusters (a stretch with at most one empty place), put together; ends_of. -/
namespace Spr
def cpot (l r : Int) (h : Option Int) (p : Int) : Int := match h with | none => iv l r p | some e => iv l r p - chip e p
def cmass (l r : Int) (h : Option Int) : Int := match h with | none => r - l + 1 | some _ => r - l
def cbal (l r : Int) (h : Option Int) : Int := match h with | none => tri r - tri (l - 1) | some e => tri r - tri (l - 1) - e
def Vc (l r : Int) (h : Option Int) : Prop := l ≤ r ∧ ∀ e, h = some e → l < e ∧ e < r
theorem cpot_some (l r e p : Int) : cpot l r (some e) p = iv l (e - 1) p + iv (e + 1) r p := by
  show iv l r p - chip e p = _
  rw [chip_up]
  unfold iv
  rw [show e - 1 + 1 = e by omega]
  omega
theorem cpot_cvx {l r : Int} {h : Option Int} (V : Vc l r h) (p : Int) : 0 ≤ lap (cpot l r h) p := by
  cases h with
  | none => exact iv_cvx (by have := V.1; omega) p
  | some e =>
    have e1 : cpot l r (some e) = padd (iv l (e - 1)) (iv (e + 1) r) := funext fun p => cpot_some l r e p
    have := V.2 e rfl
    rw [e1]
    exact padd_cvx (iv_cvx (by omega)) (iv_cvx (by omega)) p
/-- one put into a cluster -/
theorem add_in {l r : Int} {h : Option Int} {x : Int} (V : Vc l r h) (hl : l ≤ x) (hr : x ≤ r) :
    ∃ l' r' h', Vc l' r' h' ∧ Reach (padd (cpot l r h) (chip x)) (cpot l' r' h') ∧ cmass l' r' h' = cmass l r h + 1 ∧ cbal l' r' h' = cbal l r h + x ∧ l' ≤ l ∧ r ≤ r' ∧ x + 1 ≤ r' := by
  cases h with
  | none =>
    refine ⟨l - 1, r + 1, some (l + r - x), ⟨by omega, fun e he => ?_⟩, block _ l r x rfl hl hr, ?_, ?_, by omega, by omega, by omega⟩
    · cases he; omega
    · show r + 1 - (l - 1) = r - l + 1 + 1; omega
    · show tri (r + 1) - tri (l - 1 - 1) - (l + r - x) = tri r - tri (l - 1) + x
      rw [tri_succ, tri_pred (l - 1)]; omega
  | some e =>
    have hV := V.2 e rfl
    by_cases hx : x = e
    · subst hx
      refine ⟨l, r, none, ⟨by omega, fun e he => nomatch he⟩, .of_eq fun p => ?_, ?_, ?_, by omega, by omega, by omega⟩
      · show iv l r p - chip x p + chip x p = iv l r p; omega
      · show r - l + 1 = r - l + 1; omega
      · show tri r - tri (l - 1) = tri r - tri (l - 1) - x + x; omega
    · by_cases hx2 : x < e
      · have q := (block _ l (e - 1) x rfl hl (by omega)).add (iv (e + 1) r) (iv_cvx (by omega))
        refine ⟨l - 1, r, some (l + (e - 1) - x), ⟨by omega, fun e' he => ?_⟩, (Reach.eq_left ?_ (q.eq_right ?_)), ?_, ?_, by omega, by omega, by omega⟩
        · cases he; omega
        · intro p
          show cpot l r (some e) p + chip x p = iv l (e - 1) p + chip x p + iv (e + 1) r p
          rw [cpot_some]; omega
        · intro p
          show iv (l - 1) (e - 1 + 1) p - chip (l + (e - 1) - x) p + iv (e + 1) r p = iv (l - 1) r p - chip (l + (e - 1) - x) p
          unfold iv
          rw [show e - 1 + 1 = e by omega]; omega
        · show r - (l - 1) = r - l + 1; omega
        · show tri r - tri (l - 1 - 1) - (l + (e - 1) - x) = tri r - tri (l - 1) - e + x
          rw [tri_pred (l - 1)]; omega
      · have q := (block _ (e + 1) r x rfl (by omega) hr).add (iv l (e - 1)) (iv_cvx (by omega))
        refine ⟨l, r + 1, some (e + 1 + r - x), ⟨by omega, fun e' he => ?_⟩, (Reach.eq_left ?_ (q.eq_right ?_)), ?_, ?_, by omega, by omega, by omega⟩
        · cases he; omega
        · intro p
          show cpot l r (some e) p + chip x p = iv (e + 1) r p + chip x p + iv l (e - 1) p
          rw [cpot_some]; omega
        · intro p
          show iv (e + 1 - 1) (r + 1) p - chip (e + 1 + r - x) p + iv l (e - 1) p = iv l (r + 1) p - chip (e + 1 + r - x) p
          unfold iv
          rw [show e - 1 + 1 = e by omega, show e + 1 - 1 = e by omega]; omega
        · show r + 1 - l = r - l + 1; omega
        · show tri (r + 1) - tri (l - 1) - (e + 1 + r - x) = tri r - tri (l - 1) - e + x
          rw [tri_succ]; omega
/-- one put just behind a cluster -/
theorem add_end {l r : Int} {h : Option Int} (V : Vc l r h) :
    Vc l (r + 1) h ∧ Reach (padd (cpot l r h) (chip (r + 1))) (cpot l (r + 1) h) ∧ cmass l (r + 1) h = cmass l r h + 1 ∧ cbal l (r + 1) h = cbal l r h + (r + 1) := by
  have hp : ∀ p, iv l r p + chip (r + 1) p = iv l (r + 1) p := fun p => by
    rw [chip_up]; unfold iv; omega
  have hV := V.1
  cases h with
  | none =>
    refine ⟨⟨by omega, fun e he => nomatch he⟩, .of_eq hp, ?_, ?_⟩
    · show r + 1 - l + 1 = r - l + 1 + 1; omega
    · show tri (r + 1) - tri (l - 1) = tri r - tri (l - 1) + (r + 1)
      rw [tri_succ]; omega
  | some e =>
    have hE := V.2 e rfl
    refine ⟨⟨by omega, fun e' he => by cases he; omega⟩, .of_eq fun p => ?_, ?_, ?_⟩
    · have := hp p
      show iv l r p - chip e p + chip (r + 1) p = iv l (r + 1) p - chip e p
      omega
    · show r + 1 - l = r - l + 1; omega
    · show tri (r + 1) - tri (l - 1) - e = tri r - tri (l - 1) - e + (r + 1)
      rw [tri_succ]; omega
/-- a stretch put into a cluster -/
theorem add_iv : ∀ (n : Nat) (s t l r : Int) (h : Option Int), (t - s + 1).toNat = n → s ≤ t + 1 → Vc l r h → l ≤ s → s ≤ r + 1 →
    ∃ l' r' h', Vc l' r' h' ∧ Reach (padd (cpot l r h) (iv s t)) (cpot l' r' h') ∧ cmass l' r' h' = cmass l r h + (t - s + 1) ∧ cbal l' r' h' = cbal l r h + (tri t - tri (s - 1)) ∧ l' ≤ l ∧ r ≤ r' ∧ t ≤ r' ∧ (s ≤ r → t + 1 ≤ r') := by
  intro n
  induction n with
  | zero =>
    intro s t l r h hn hst V hl hr
    have e : s = t + 1 := by omega
    subst e
    refine ⟨l, r, h, V, .of_eq fun p => ?_, by omega, ?_, by omega, by omega, by omega, fun _ => by omega⟩
    · unfold padd iv; omega
    · rw [show t + 1 - 1 = t by omega]; omega
  | succ n ih =>
    intro s t l r h hn hst V hl hr
    have split : ∀ p, padd (cpot l r h) (iv s t) p = padd (padd (cpot l r h) (chip s)) (iv (s + 1) t) p := fun p => by
      unfold padd
      rw [chip_up]
      unfold iv
      omega
    have cv := iv_cvx (l := s + 1) (r := t) (by omega)
    have trS : tri s - tri (s - 1) = s := by rw [tri_pred]; omega
    by_cases hs : s ≤ r
    · obtain ⟨l1, r1, h1, V1, R1, m1, b1, e1, e2, e3⟩ := add_in V hl hs
      obtain ⟨l2, r2, h2, V2, R2, m2, b2, e4, e5, e6, e7⟩ := ih (s + 1) t l1 r1 h1 (by omega) (by omega) V1 (by omega) (by omega)
      refine ⟨l2, r2, h2, V2, .eq_left split ((R1.add _ cv).trans R2), by omega, ?_, by omega, by omega, by omega, fun _ => e7 (by omega)⟩
      rw [show s + 1 - 1 = s by omega] at b2
      omega
    · have e : s = r + 1 := by omega
      subst e
      obtain ⟨V1, R1, m1, b1⟩ := add_end V
      obtain ⟨l2, r2, h2, V2, R2, m2, b2, e4, e5, e6, e7⟩ := ih (r + 1 + 1) t l (r + 1) h (by omega) (by omega) V1 (by omega) (by omega)
      refine ⟨l2, r2, h2, V2, .eq_left split ((R1.add _ cv).trans R2), by omega, ?_, by omega, by omega, by omega, fun z => by omega⟩
      rw [show r + 1 + 1 - 1 = r + 1 by omega] at b2
      omega
theorem merge1 {l r a b : Int} {h g : Option Int} (V : Vc l r h) (W : Vc a b g) (h1 : l ≤ a) (h2 : a ≤ r) :
    ∃ l' r' h', Vc l' r' h' ∧ Reach (padd (cpot l r h) (cpot a b g)) (cpot l' r' h') ∧ cmass l' r' h' = cmass l r h + cmass a b g ∧ cbal l' r' h' = cbal l r h + cbal a b g ∧ l' ≤ l ∧ r ≤ r' ∧ b ≤ r' := by
  have hW := W.1
  cases g with
  | none =>
    obtain ⟨l1, r1, h1, V1, R1, m1, b1, e1, e2, e3, _⟩ := add_iv _ a b l r h rfl (by omega) V h1 (by omega)
    refine ⟨l1, r1, h1, V1, R1, ?_, ?_, e1, e2, e3⟩
    · show _ = _ + (b - a + 1); omega
    · show _ = _ + (tri b - tri (a - 1)); omega
  | some e =>
    have hE := W.2 e rfl
    obtain ⟨l1, r1, k1, V1, R1, m1, b1, e1, e2, e3, e4⟩ := add_iv _ a (e - 1) l r h rfl (by omega) V h1 (by omega)
    have e4' := e4 h2
    obtain ⟨l2, r2, k2, V2, R2, m2, b2, f1, f2, f3, _⟩ := add_iv _ (e + 1) b l1 r1 k1 rfl (by omega) V1 (by omega) (by omega)
    refine ⟨l2, r2, k2, V2, ?_, ?_, ?_, by omega, by omega, f3⟩
    · refine .eq_left (fun p => ?_) ((R1.add (iv (e + 1) b) (iv_cvx (by omega))).trans R2)
      show cpot l r h p + cpot a b (some e) p = cpot l r h p + iv a (e - 1) p + iv (e + 1) b p
      rw [cpot_some]; omega
    · show _ = _ + (b - a); omega
    · show _ = _ + (tri b - tri (a - 1) - e)
      rw [show e + 1 - 1 = e by omega] at b2
      rw [tri_pred e] at b1
      omega
/-- two clusters that meet are put together -/
theorem merge2 {l r a b : Int} {h g : Option Int} (V : Vc l r h) (W : Vc a b g) (h1 : a ≤ r) (h2 : l ≤ b) :
    ∃ l' r' h', Vc l' r' h' ∧ Reach (padd (cpot l r h) (cpot a b g)) (cpot l' r' h') ∧ cmass l' r' h' = cmass l r h + cmass a b g ∧ cbal l' r' h' = cbal l r h + cbal a b g ∧ l' ≤ l ∧ l' ≤ a ∧ r ≤ r' ∧ b ≤ r' := by
  by_cases c : l ≤ a
  · obtain ⟨l1, r1, k1, V1, R1, m1, b1, e1, e2, e3⟩ := merge1 V W c h1
    exact ⟨l1, r1, k1, V1, R1, m1, b1, e1, by omega, e2, e3⟩
  · obtain ⟨l1, r1, k1, V1, R1, m1, b1, e1, e2, e3⟩ := merge1 W V (by omega) h2
    refine ⟨l1, r1, k1, V1, .eq_left (fun p => ?_) R1, by omega, by omega, by omega, e1, e3, e2⟩
    unfold padd; omega

/-! ### ends_of -/
def endsOf (n b : Int) : Int × Int × Option Int :=
  if (b - n * (n + 1) / 2) % n = 0 then ((b - n * (n + 1) / 2) / n + 1, (b - n * (n + 1) / 2) / n + n, none)
  else ((b - n * (n + 1) / 2) / n + 1, (b - n * (n + 1) / 2) / n + 1 + n, some ((n + 1) * ((b - n * (n + 1) / 2) / n + 1) + n * (n + 1) / 2 - b))
theorem cmass_pos {l r : Int} {h : Option Int} (V : Vc l r h) : 0 < cmass l r h := by
  have := V.1
  cases h with
  | none => show 0 < r - l + 1; omega
  | some e => have := V.2 e rfl; show 0 < r - l; omega
theorem endsOf_is {l r : Int} {h : Option Int} (V : Vc l r h) : endsOf (cmass l r h) (cbal l r h) = (l, r, h) := by
  have hV := V.1
  cases h with
  | none =>
    show endsOf (r - l + 1) (tri r - tri (l - 1)) = (l, r, none)
    obtain ⟨n, rfl⟩ : ∃ n, r = n + l - 1 := ⟨r - l + 1, by omega⟩
    have hn : 0 < n := by omega
    rw [show n + l - 1 - l + 1 = n by omega]
    have e : tri (n + l - 1) - tri (l - 1) - n * (n + 1) / 2 = n * (l - 1) := by
      have t1 := tri_two (n + l - 1)
      have t2 := tri_two (l - 1)
      have t3 := tri_two n
      unfold tri at t3
      have : (n + l - 1) * (n + l - 1 + 1) - (l - 1) * (l - 1 + 1) - n * (n + 1) = 2 * (n * (l - 1)) := by grind
      omega
    unfold endsOf
    rw [e, Int.mul_emod_right, if_pos rfl, Int.mul_ediv_cancel_left _ (by omega)]
    rw [show l - 1 + 1 = l by omega, show l - 1 + n = n + l - 1 by omega]
  | some e =>
    have hE := V.2 e rfl
    show endsOf (r - l) (tri r - tri (l - 1) - e) = (l, r, some e)
    obtain ⟨n, rfl⟩ : ∃ n, r = n + l := ⟨r - l, by omega⟩
    rw [show n + l - l = n by omega]
    have hn : 0 < n := by omega
    have t1 := tri_two (n + l)
    have t2 := tri_two (l - 1)
    have t3 := tri_two n
    unfold tri at t3
    have e1 : tri (n + l) - tri (l - 1) - e - n * (n + 1) / 2 = (n + l - e) + n * (l - 1) := by
      have : (n + l) * (n + l + 1) - (l - 1) * (l - 1 + 1) - n * (n + 1) = 2 * (n + l + n * (l - 1)) := by grind
      omega
    have e2 : ((n + l - e) + n * (l - 1)) % n = n + l - e := by
      rw [Int.add_mul_emod_self_left, Int.emod_eq_of_lt (by omega) (by omega)]
    have e3 : ((n + l - e) + n * (l - 1)) / n = l - 1 := by
      rw [Int.add_mul_ediv_left _ _ (by omega), Int.ediv_eq_zero_of_lt (by omega) (by omega)]
      omega
    unfold endsOf
    rw [e1, e2, e3, if_neg (by omega), show l - 1 + 1 = l by omega]
    have e4 : (n + 1) * l + n * (n + 1) / 2 - (tri (n + l) - tri (l - 1) - e) = e := by
      have : (n + 1) * l = n * (l - 1) + n + l := by grind
      omega
    rw [e4, show l + n = n + l by omega]
/-- a cluster told by how many and the sum of places -/
def Good (n b : Int) : Prop := ∃ l r h, Vc l r h ∧ n = cmass l r h ∧ b = cbal l r h
theorem iv_pos_count (x : Int) : ∀ (n : Nat), 0 < n → ∃ l r h, Vc l r h ∧ Reach (fun p => n * chip x p) (cpot l r h) ∧ cmass l r h = n ∧ cbal l r h = n * x ∧ l ≤ x ∧ x ≤ r
  | 0, h => by omega
  | 1, _ => ⟨x, x, none, ⟨by omega, fun e he => nomatch he⟩, .of_eq fun p => by show (1 : Int) * chip x p = iv x x p; rw [iv_chip]; omega, by show x - x + 1 = 1; omega, by show tri x - tri (x - 1) = 1 * x; rw [tri_pred]; omega, by omega, by omega⟩
  | n + 2, _ => by
    obtain ⟨l, r, h, V, R, m, b, h1, h2⟩ := iv_pos_count x (n + 1) (by omega)
    obtain ⟨l1, r1, k1, V1, R1, m1, b1, e1, e2, e3⟩ := add_in V h1 h2
    refine ⟨l1, r1, k1, V1, .eq_left (fun p => ?_) ((R.add (chip x) (chip_cvx x)).trans R1), by omega, ?_, by omega, by omega⟩
    · show ((n + 2 : Nat) : Int) * chip x p = ((n + 1 : Nat) : Int) * chip x p + chip x p
      have : ((n + 2 : Nat) : Int) = ((n + 1 : Nat) : Int) + 1 := by omega
      rw [this, Int.add_mul]; omega
    · have : ((n + 2 : Nat) : Int) = ((n + 1 : Nat) : Int) + 1 := by omega
      rw [this, Int.add_mul, b1, b]; omega
/-- a heap alone -/
theorem heap_alone {x c : Int} (hc : 0 < c) : ∃ l r h, Vc l r h ∧ Reach (fun p => c * chip x p) (cpot l r h) ∧ cmass l r h = c ∧ cbal l r h = c * x ∧ l ≤ x ∧ x ≤ r := by
  obtain ⟨n, rfl⟩ : ∃ n : Nat, c = n := ⟨c.toNat, by omega⟩
  exact iv_pos_count x n (by omega)
end Spr
/-! Plain law, part C: the clusters as the program makes them (put together upon a pile), the stretches; that they are what is left. -/
namespace Spr
abbrev I2 := Int × Int
/-! ### order of heaps -/
def leP (a b : I2) : Bool := decide (a.1 < b.1) || (decide (a.1 = b.1) && decide (a.2 ≤ b.2))
theorem leP_iff {a b : I2} : leP a b = true ↔ a.1 < b.1 ∨ (a.1 = b.1 ∧ a.2 ≤ b.2) := by
  unfold leP
  rw [Bool.or_eq_true, Bool.and_eq_true, decide_eq_true_iff, decide_eq_true_iff, decide_eq_true_iff]
def srt (hs : List I2) : List I2 := hs.mergeSort leP
theorem srt_perm (hs : List I2) : (srt hs).Perm hs := List.mergeSort_perm hs leP
theorem srt_sorted (hs : List I2) : (srt hs).Pairwise (fun a b => leP a b = true) :=
  List.pairwise_mergeSort (le := leP) (fun a b c h1 h2 => by rw [leP_iff] at *; omega) (fun a b => by rw [Bool.or_eq_true, leP_iff, leP_iff]; omega) hs
theorem sorted_uniq : ∀ {l m : List I2}, l.Pairwise (fun a b => leP a b = true) → m.Pairwise (fun a b => leP a b = true) → l.Perm m → l = m
  | [], m, _, _, h => (List.Perm.eq_nil h.symm).symm
  | x :: l, [], _, _, h => absurd h.length_eq (by simp)
  | x :: l, y :: m, hl, hm, h => by
    have h1 : leP y x = true := by
      rcases List.mem_cons.mp (h.mem_iff.mp (List.mem_cons_self (a := x) (l := l))) with e | hx
      · rw [e, leP_iff]; omega
      · exact (List.pairwise_cons.mp hm).1 x hx
    have h2 : leP x y = true := by
      rcases List.mem_cons.mp (h.mem_iff.mpr (List.mem_cons_self (a := y) (l := m))) with e | hy
      · rw [e, leP_iff]; omega
      · exact (List.pairwise_cons.mp hl).1 y hy
    have e : x = y := by
      rw [leP_iff] at h1 h2
      exact Prod.ext (by omega) (by omega)
    subst e
    rw [sorted_uniq (List.pairwise_cons.mp hl).2 (List.pairwise_cons.mp hm).2 h.cons_inv]
theorem srt_of {hs l : List I2} (h1 : l.Perm hs) (h2 : l.Pairwise (fun a b => leP a b = true)) : l = srt hs :=
  sorted_uniq h2 (srt_sorted hs) (h1.trans (srt_perm hs).symm)
theorem srt_congr {hs hs' : List I2} (h : hs.Perm hs') : srt hs = srt hs' := srt_of ((srt_perm hs).trans h) (srt_sorted hs)

/-! ### the program's functions -/
def firstOf (c : I2) : Int := (endsOf c.1 c.2).1
def lastOf (c : I2) : Int := (endsOf c.1 c.2).2.1
def emptyOf (c : I2) : Option Int := (endsOf c.1 c.2).2.2
/-- a cluster upon the pile (its top first): put together while it meets the top -/
def absorb : List I2 → Int → Int → List I2
  | [], n, b => [(n, b)]
  | c :: st, n, b => if firstOf (n, b) ≤ lastOf c then absorb st (n + c.1) (b + c.2) else (n, b) :: c :: st
def put (st : List I2) (x : I2) : List I2 := if 0 < x.2 then absorb st x.2 (x.2 * x.1) else st
/-- clusters of heaps that are in order, the last one first -/
def clusS (hs : List I2) : List I2 := hs.foldl put []
def clus (hs : List I2) : List I2 := (clusS (srt hs)).reverse
def parts (c : I2) : List I2 := match emptyOf c with | none => [(firstOf c, lastOf c)] | some e => [(firstOf c, e - 1), (e + 1, lastOf c)]
def joinp (acc : List I2) (p : I2) : List I2 := match acc with | [] => [p] | q :: t => if q.2 + 1 = p.1 then (q.1, p.2) :: t else p :: q :: t
def stretches (hs : List I2) : List I2 := (((clus hs).flatMap parts).foldl joinp []).reverse

/-! ### potentials -/
/-- of heaps -/
def hpot : List I2 → Int → Int
  | [], _ => 0
  | h :: t, p => h.2 * chip h.1 p + hpot t p
/-- of stretches -/
def spot : List I2 → Int → Int
  | [], _ => 0
  | s :: t, p => iv s.1 s.2 p + spot t p
/-- of clusters -/
def kpot (c : I2) (p : Int) : Int := cpot (firstOf c) (lastOf c) (emptyOf c) p
def gpot : List I2 → Int → Int
  | [], _ => 0
  | c :: t, p => kpot c p + gpot t p
theorem hpot_append (a b : List I2) (p : Int) : hpot (a ++ b) p = hpot a p + hpot b p := by
  induction a with
  | nil => show hpot b p = 0 + hpot b p; omega
  | cons x a ih => show x.2 * chip x.1 p + hpot (a ++ b) p = x.2 * chip x.1 p + hpot a p + hpot b p; omega
theorem spot_append (a b : List I2) (p : Int) : spot (a ++ b) p = spot a p + spot b p := by
  induction a with
  | nil => show spot b p = 0 + spot b p; omega
  | cons x a ih => show iv x.1 x.2 p + spot (a ++ b) p = iv x.1 x.2 p + spot a p + spot b p; omega
theorem gpot_append (a b : List I2) (p : Int) : gpot (a ++ b) p = gpot a p + gpot b p := by
  induction a with
  | nil => show gpot b p = 0 + gpot b p; omega
  | cons x a ih => show kpot x p + gpot (a ++ b) p = kpot x p + gpot a p + gpot b p; omega
theorem spot_reverse (a : List I2) (p : Int) : spot a.reverse p = spot a p := by
  induction a with
  | nil => rfl
  | cons x a ih =>
    rw [List.reverse_cons, spot_append, ih]
    show spot a p + (iv x.1 x.2 p + 0) = iv x.1 x.2 p + spot a p
    omega
theorem gpot_reverse (a : List I2) (p : Int) : gpot a.reverse p = gpot a p := by
  induction a with
  | nil => rfl
  | cons x a ih =>
    rw [List.reverse_cons, gpot_append, ih]
    show gpot a p + (kpot x p + 0) = kpot x p + gpot a p
    omega
theorem hpot_perm {a b : List I2} (h : a.Perm b) (p : Int) : hpot a p = hpot b p := by
  induction h with
  | nil => rfl
  | cons x h ih => show _ + hpot _ p = _ + hpot _ p; rw [ih]
  | swap x y l => show _ + (_ + hpot l p) = _ + (_ + hpot l p); omega
  | trans h1 h2 i1 i2 => rw [i1, i2]

/-! ### clusters are good -/
theorem Good.at {c : I2} (g : Good c.1 c.2) : Vc (firstOf c) (lastOf c) (emptyOf c) ∧ c.1 = cmass (firstOf c) (lastOf c) (emptyOf c) ∧ c.2 = cbal (firstOf c) (lastOf c) (emptyOf c) := by
  obtain ⟨l, r, h, V, e1, e2⟩ := g
  have e : endsOf c.1 c.2 = (l, r, h) := by rw [e1, e2]; exact endsOf_is V
  unfold firstOf lastOf emptyOf
  rw [e]
  exact ⟨V, e1, e2⟩
theorem Good.mk {l r : Int} {h : Option Int} (V : Vc l r h) : Good (cmass l r h) (cbal l r h) := ⟨l, r, h, V, rfl, rfl⟩
theorem ends_at {l r : Int} {h : Option Int} (V : Vc l r h) {c : I2} (e1 : c.1 = cmass l r h) (e2 : c.2 = cbal l r h) : Good c.1 c.2 ∧ firstOf c = l ∧ lastOf c = r ∧ emptyOf c = h := by
  have e : endsOf c.1 c.2 = (l, r, h) := by rw [e1, e2]; exact endsOf_is V
  refine ⟨⟨l, r, h, V, e1, e2⟩, ?_, ?_, ?_⟩
  · unfold firstOf; rw [e]
  · unfold lastOf; rw [e]
  · unfold emptyOf; rw [e]
/-- a pile: good clusters, apart from one another, the last one first -/
structure Pile (st : List I2) : Prop where
  good : ∀ c ∈ st, Good c.1 c.2
  apart : st.Pairwise (fun c d => lastOf d < firstOf c)
theorem Pile.tail {c : I2} {st : List I2} (h : Pile (c :: st)) : Pile st := ⟨fun d m => h.good d (List.mem_cons_of_mem _ m), (List.pairwise_cons.mp h.apart).2⟩
theorem Pile.nil : Pile [] := ⟨fun _ m => (nomatch m), .nil⟩
theorem gpot_cvx : ∀ {st : List I2}, Pile st → ∀ p, 0 ≤ lap (gpot st) p
  | [], _, p => by show 0 ≤ (0 : Int) + 0 - 2 * 0; decide
  | c :: st, h, p => by
    have e : gpot (c :: st) = padd (kpot c) (gpot st) := rfl
    rw [e]
    exact padd_cvx (cpot_cvx (h.good c List.mem_cons_self).at.1) (gpot_cvx h.tail) p
theorem absorb_ok : ∀ (st : List I2) (n b : Int), Pile st → Good n b → (∀ c, st.head? = some c → firstOf c ≤ lastOf (n, b)) →
    Pile (absorb st n b) ∧ Reach (padd (gpot st) (kpot (n, b))) (gpot (absorb st n b)) ∧ ∃ c, (absorb st n b).head? = some c ∧ firstOf c ≤ firstOf (n, b)
  | [], n, b, _, g, _ => by
    refine ⟨⟨fun c m => ?_, List.pairwise_singleton _ _⟩, .of_eq fun p => ?_, (n, b), rfl, Int.le_refl _⟩
    · rw [List.mem_singleton.mp m]; exact g
    · show 0 + kpot (n, b) p = kpot (n, b) p + 0; omega
  | c :: st, n, b, P, g, hh => by
    have gc := P.good c List.mem_cons_self
    have V := gc.at
    have W := Good.at (c := (n, b)) g
    have V1 := V.1.1
    have W1 := W.1.1
    have hc := hh c rfl
    unfold absorb
    by_cases q : firstOf (n, b) ≤ lastOf c
    · rw [if_pos q]
      obtain ⟨l1, r1, k1, V2, R2, m2, b2, e1, e2, e3, e4⟩ := merge2 V.1 W.1 q hc
      obtain ⟨g2, f1, f2, f3⟩ := ends_at V2 (c := (n + c.1, b + c.2)) (by have := V.2.1; have := W.2.1; simp only at *; omega) (by have := V.2.2; have := W.2.2; simp only at *; omega)
      have k : kpot (n + c.1, b + c.2) = cpot l1 r1 k1 := by
        unfold kpot
        rw [f1, f2, f3]
      obtain ⟨P3, R3, d, hd, hd2⟩ := absorb_ok st (n + c.1) (b + c.2) P.tail g2 fun d hd => by
        have md : d ∈ st := List.mem_of_mem_head? hd
        have := (List.pairwise_cons.mp P.apart).1 d md
        have := ((P.tail).good d md).at.1.1
        rw [f2]
        omega
      refine ⟨P3, ?_, d, hd, by omega⟩
      rw [k] at R3
      refine .eq_left (fun p => ?_) (((R2.add (gpot st) (gpot_cvx P.tail)).eq_right fun p => ?_).trans R3)
      · show kpot c p + gpot st p + kpot (n, b) p = kpot c p + kpot (n, b) p + gpot st p; omega
      · show cpot l1 r1 k1 p + gpot st p = gpot st p + cpot l1 r1 k1 p; omega
    · rw [if_neg q]
      refine ⟨⟨fun d m => ?_, List.pairwise_cons.mpr ⟨fun d m => ?_, P.apart⟩⟩, .of_eq fun p => ?_, (n, b), rfl, Int.le_refl _⟩
      · rcases List.mem_cons.mp m with e | m
        · rw [e]; exact g
        · exact P.good d m
      · rcases List.mem_cons.mp m with e | m
        · rw [e]; omega
        · have := (List.pairwise_cons.mp P.apart).1 d m
          omega
      · show gpot (c :: st) p + kpot (n, b) p = kpot (n, b) p + gpot (c :: st) p; omega
theorem heap_good {x : I2} (hx : 0 < x.2) : Good x.2 (x.2 * x.1) ∧ Reach (fun p => x.2 * chip x.1 p) (kpot (x.2, x.2 * x.1)) ∧ firstOf (x.2, x.2 * x.1) ≤ x.1 ∧ x.1 ≤ lastOf (x.2, x.2 * x.1) := by
  obtain ⟨l, r, h, V, R, m, b, h1, h2⟩ := heap_alone (x := x.1) hx
  obtain ⟨g, f1, f2, f3⟩ := ends_at V (c := (x.2, x.2 * x.1)) m.symm b.symm
  refine ⟨g, ?_, by omega, by omega⟩
  have k : kpot (x.2, x.2 * x.1) = cpot l r h := by
    unfold kpot
    rw [f1, f2, f3]
  rw [k]
  exact R
theorem foldl_put : ∀ (hs st : List I2) (lo : Int), hs.Pairwise (fun a b => a.1 ≤ b.1) → (∀ h ∈ hs, lo ≤ h.1) → (∀ h ∈ hs, 0 ≤ h.2) → Pile st → (∀ c, st.head? = some c → firstOf c ≤ lo) →
    Pile (hs.foldl put st) ∧ Reach (padd (gpot st) (hpot hs)) (gpot (hs.foldl put st))
  | [], st, lo, _, _, _, P, _ => ⟨P, .of_eq fun p => by show gpot st p + 0 = gpot st p; omega⟩
  | x :: hs, st, lo, hp, hl, h0, P, hh => by
    obtain ⟨p1, p2⟩ := List.pairwise_cons.mp hp
    have hx := hl x List.mem_cons_self
    have hx0 := h0 x List.mem_cons_self
    rw [List.foldl_cons]
    by_cases q : 0 < x.2
    · obtain ⟨g, R, f1, f2⟩ := heap_good q
      obtain ⟨P1, R1, c, hc, hc2⟩ := absorb_ok st x.2 (x.2 * x.1) P g fun c hc => by have := hh c hc; omega
      have e : put st x = absorb st x.2 (x.2 * x.1) := if_pos q
      rw [e]
      obtain ⟨P2, R2⟩ := foldl_put hs _ x.1 p2 (fun h m => p1 h m) (fun h m => h0 h (List.mem_cons_of_mem _ m)) P1 fun d hd => by
        rw [hc] at hd; cases hd; omega
      refine ⟨P2, ?_⟩
      have hcv : ∀ p, 0 ≤ lap (hpot hs) p := by
        intro p
        have : ∀ l : List I2, (∀ h ∈ l, 0 ≤ h.2) → 0 ≤ lap (hpot l) p := by
          intro l
          induction l with
          | nil => intro _; show 0 ≤ (0 : Int) + 0 - 2 * 0; decide
          | cons y l ih =>
            intro hl
            have e : lap (hpot (y :: l)) p = y.2 * lap (chip y.1) p + lap (hpot l) p := by
              show (y.2 * _ + hpot l _) + (y.2 * _ + hpot l _) - 2 * (y.2 * _ + hpot l _) = _
              unfold lap
              rw [Int.mul_sub y.2, Int.mul_add y.2]
              have : y.2 * (2 * chip y.1 p) = 2 * (y.2 * chip y.1 p) := by rw [Int.mul_left_comm]
              omega
            rw [e, lap_chip]
            have := hl y List.mem_cons_self
            have := ih fun h m => hl h (List.mem_cons_of_mem _ m)
            split
            · omega
            · omega
        exact this hs fun h m => h0 h (List.mem_cons_of_mem _ m)
      have R3 := ((R.add (gpot st) (gpot_cvx P)).eq_right (G' := padd (gpot st) (kpot (x.2, x.2 * x.1))) fun p => by
        show kpot _ p + gpot st p = gpot st p + kpot _ p; omega).trans R1
      refine .eq_left (fun p => ?_) ((R3.add (hpot hs) hcv).trans R2)
      show gpot st p + (x.2 * chip x.1 p + hpot hs p) = x.2 * chip x.1 p + gpot st p + hpot hs p
      omega
    · have e : put st x = st := if_neg q
      rw [e]
      obtain ⟨P2, R2⟩ := foldl_put hs st lo p2 (fun h m => hl h (List.mem_cons_of_mem _ m)) (fun h m => h0 h (List.mem_cons_of_mem _ m)) P hh
      refine ⟨P2, .eq_left (fun p => ?_) R2⟩
      have : x.2 = 0 := by omega
      show gpot st p + (x.2 * chip x.1 p + hpot hs p) = gpot st p + hpot hs p
      rw [this, Int.zero_mul]
      omega
theorem clus_ok {hs : List I2} (h0 : ∀ h ∈ hs, 0 ≤ h.2) : Pile (clusS (srt hs)) ∧ Reach (hpot hs) (gpot (clusS (srt hs))) := by
  have sp := srt_sorted hs
  have s1 : (srt hs).Pairwise (fun a b => a.1 ≤ b.1) := sp.imp fun h => by rw [leP_iff] at h; omega
  cases e : srt hs with
  | nil =>
    have : hs = [] := by
      have := srt_perm hs
      rw [e] at this
      exact this.symm.eq_nil
    subst this
    exact ⟨.nil, .refl _⟩
  | cons x t =>
    rw [e] at s1
    have q := foldl_put (x :: t) [] x.1 s1 (fun h m => by
      rcases List.mem_cons.mp m with z | m
      · rw [z]; exact Int.le_refl _
      · exact (List.pairwise_cons.mp s1).1 h m) (fun h m => h0 h ((srt_perm hs).mem_iff.mp (by rw [e]; exact m))) .nil (fun c hc => by cases hc)
    refine ⟨q.1, .eq_left (fun p => ?_) q.2⟩
    rw [← hpot_perm (srt_perm hs) p, e]
    show _ = 0 + hpot (x :: t) p
    omega

/-! ### stretches -/
/-- stretches apart, with a place between -/
structure NF (l : List I2) : Prop where
  le : ∀ s ∈ l, s.1 ≤ s.2
  gap : l.Pairwise (fun a b => a.2 + 1 < b.1)
theorem spot_parts {c : I2} (p : Int) : spot (parts c) p = kpot c p := by
  unfold parts kpot
  cases emptyOf c with
  | none => show iv (firstOf c) (lastOf c) p + 0 = iv (firstOf c) (lastOf c) p; omega
  | some e =>
    rw [cpot_some]
    show iv (firstOf c) (e - 1) p + (iv (e + 1) (lastOf c) p + 0) = _
    omega
theorem joins_ok : ∀ (ps acc : List I2), (∀ s ∈ ps, s.1 ≤ s.2) → ps.Pairwise (fun a b => a.2 < b.1) → (∀ a ∈ acc, a.1 ≤ a.2) → acc.Pairwise (fun a b => b.2 + 1 < a.1) → (∀ a ∈ acc, ∀ s ∈ ps, a.2 < s.1) →
    (∀ a ∈ ps.foldl joinp acc, a.1 ≤ a.2) ∧ (ps.foldl joinp acc).Pairwise (fun a b => b.2 + 1 < a.1) ∧ ∀ p, spot (ps.foldl joinp acc) p = spot acc p + spot ps p
  | [], acc, _, _, h3, h4, _ => ⟨h3, h4, fun p => by show spot acc p = spot acc p + 0; omega⟩
  | s :: ps, acc, h1, h2, h3, h4, h5 => by
    rw [List.foldl_cons]
    obtain ⟨g1, g2⟩ := List.pairwise_cons.mp h2
    have hs := h1 s List.mem_cons_self
    have hps : ∀ q ∈ ps, q.1 ≤ q.2 := fun q m => h1 q (List.mem_cons_of_mem _ m)
    have key : (∀ a ∈ joinp acc s, a.1 ≤ a.2) ∧ (joinp acc s).Pairwise (fun a b => b.2 + 1 < a.1) ∧ (∀ a ∈ joinp acc s, ∀ q ∈ ps, a.2 < q.1) ∧ ∀ p, spot (joinp acc s) p = spot acc p + iv s.1 s.2 p := by
      cases acc with
      | nil =>
        refine ⟨fun a m => ?_, List.pairwise_singleton _ _, fun a m q mq => ?_, fun p => ?_⟩
        · rw [List.mem_singleton.mp m]; exact hs
        · rw [List.mem_singleton.mp m]; exact g1 q mq
        · show iv s.1 s.2 p + 0 = 0 + iv s.1 s.2 p; omega
      | cons q t =>
        have hq := h3 q List.mem_cons_self
        have hqs := h5 q List.mem_cons_self s List.mem_cons_self
        obtain ⟨k1, k2⟩ := List.pairwise_cons.mp h4
        have ht : ∀ a ∈ t, a.1 ≤ a.2 := fun a m => h3 a (List.mem_cons_of_mem _ m)
        by_cases e : q.2 + 1 = s.1
        · have ej : joinp (q :: t) s = (q.1, s.2) :: t := if_pos e
          rw [ej]
          refine ⟨fun a m => ?_, List.pairwise_cons.mpr ⟨fun a m => k1 a m, k2⟩, fun a m r mr => ?_, fun p => ?_⟩
          · rcases List.mem_cons.mp m with z | m
            · rw [z]; show q.1 ≤ s.2; omega
            · exact ht a m
          · rcases List.mem_cons.mp m with z | m
            · rw [z]; exact g1 r mr
            · exact h5 a (List.mem_cons_of_mem _ m) r (List.mem_cons_of_mem _ mr)
          · show iv q.1 s.2 p + spot t p = iv q.1 q.2 p + spot t p + iv s.1 s.2 p
            unfold iv
            rw [e]
            omega
        · have ej : joinp (q :: t) s = s :: q :: t := if_neg e
          rw [ej]
          refine ⟨fun a m => ?_, List.pairwise_cons.mpr ⟨fun a m => ?_, h4⟩, fun a m r mr => ?_, fun p => ?_⟩
          · rcases List.mem_cons.mp m with z | m
            · rw [z]; exact hs
            · exact h3 a m
          · rcases List.mem_cons.mp m with z | m
            · rw [z]; omega
            · have := k1 a m; omega
          · rcases List.mem_cons.mp m with z | m
            · rw [z]; exact g1 r mr
            · exact h5 a m r (List.mem_cons_of_mem _ mr)
          · show iv s.1 s.2 p + spot (q :: t) p = spot (q :: t) p + iv s.1 s.2 p
            omega
    obtain ⟨j1, j2, j3⟩ := joins_ok ps (joinp acc s) hps g2 key.1 key.2.1 key.2.2.1
    refine ⟨j1, j2, fun p => ?_⟩
    rw [j3, key.2.2.2]
    show spot acc p + iv s.1 s.2 p + spot ps p = spot acc p + (iv s.1 s.2 p + spot ps p)
    omega
theorem parts_ok {c : I2} (g : Good c.1 c.2) : (∀ s ∈ parts c, s.1 ≤ s.2 ∧ firstOf c ≤ s.1 ∧ s.2 ≤ lastOf c) ∧ (parts c).Pairwise (fun a b => a.2 < b.1) := by
  have V := g.at.1
  have V1 := V.1
  unfold parts
  cases e : emptyOf c with
  | none =>
    refine ⟨fun s m => ?_, List.pairwise_singleton _ _⟩
    rw [List.mem_singleton.mp m]
    exact ⟨V1, Int.le_refl _, Int.le_refl _⟩
  | some x =>
    have := V.2 x e
    refine ⟨fun s m => ?_, List.pairwise_cons.mpr ⟨fun s m => ?_, List.pairwise_singleton _ _⟩⟩
    · rcases List.mem_cons.mp m with z | m
      · rw [z]; simp only; omega
      · rw [List.mem_singleton.mp m]; simp only; omega
    · rw [List.mem_singleton.mp m]; simp only; omega
theorem flat_ok : ∀ {l : List I2}, (∀ c ∈ l, Good c.1 c.2) → l.Pairwise (fun c d => lastOf c < firstOf d) →
    (∀ s ∈ l.flatMap parts, s.1 ≤ s.2) ∧ (l.flatMap parts).Pairwise (fun a b => a.2 < b.1) ∧ ∀ p, spot (l.flatMap parts) p = gpot l p
  | [], _, _ => ⟨fun _ m => by simp at m, .nil, fun p => rfl⟩
  | c :: l, hg, hp => by
    obtain ⟨p1, p2⟩ := List.pairwise_cons.mp hp
    obtain ⟨i1, i2, i3⟩ := flat_ok (fun d m => hg d (List.mem_cons_of_mem _ m)) p2
    obtain ⟨k1, k2⟩ := parts_ok (hg c List.mem_cons_self)
    rw [List.flatMap_cons]
    refine ⟨fun s m => ?_, List.pairwise_append.mpr ⟨k2, i2, fun a ma b mb => ?_⟩, fun p => ?_⟩
    · rcases List.mem_append.mp m with m | m
      · exact (k1 s m).1
      · exact i1 s m
    · obtain ⟨d, md, mb⟩ := List.mem_flatMap.mp mb
      have := (parts_ok (hg d (List.mem_cons_of_mem _ md))).1 b mb
      have := p1 d md
      have := k1 a ma
      omega
    · rw [spot_append, spot_parts, i3]
      rfl
/-- the stretches are what is left -/
theorem stretches_ok {hs : List I2} (h0 : ∀ h ∈ hs, 0 ≤ h.2) : NF (stretches hs) ∧ Reach (hpot hs) (spot (stretches hs)) := by
  obtain ⟨P, R⟩ := clus_ok h0
  obtain ⟨f1, f2, f3⟩ := flat_ok (l := clus hs) (fun c m => P.good c (List.mem_reverse.mp m)) (List.pairwise_reverse.mpr P.apart)
  obtain ⟨j1, j2, j3⟩ := joins_ok ((clus hs).flatMap parts) [] f1 f2 (fun _ m => nomatch m) .nil (fun _ m => nomatch m)
  refine ⟨⟨fun s m => j1 s (List.mem_reverse.mp m), List.pairwise_reverse.mpr j2⟩, R.eq_right fun p => ?_⟩
  unfold stretches
  rw [spot_reverse, j3, f3]
  unfold clus
  rw [gpot_reverse]
  show _ = 0 + _
  omega
/-! ### what a place has -/
def hasB (l : List I2) (p : Int) : Bool := l.any fun s => decide (s.1 ≤ p) && decide (p ≤ s.2)
theorem hasB_iff {l : List I2} {p : Int} : hasB l p = true ↔ ∃ s ∈ l, s.1 ≤ p ∧ p ≤ s.2 := by
  unfold hasB
  rw [List.any_eq_true]
  constructor
  · rintro ⟨s, m, h⟩
    rw [Bool.and_eq_true, decide_eq_true_iff, decide_eq_true_iff] at h
    exact ⟨s, m, h⟩
  · rintro ⟨s, m, h⟩
    exact ⟨s, m, by rw [Bool.and_eq_true, decide_eq_true_iff, decide_eq_true_iff]; exact h⟩
theorem NF.tail {s : I2} {l : List I2} (h : NF (s :: l)) : NF l := ⟨fun d m => h.le d (List.mem_cons_of_mem _ m), (List.pairwise_cons.mp h.gap).2⟩
theorem lap_spot : ∀ {l : List I2}, NF l → ∀ p, lap (spot l) p = if hasB l p = true then 1 else 0
  | [], _, p => rfl
  | s :: l, h, p => by
    have e : spot (s :: l) = padd (iv s.1 s.2) (spot l) := rfl
    have hs := h.le s List.mem_cons_self
    rw [e, lap_padd, lap_iv (by omega), lap_spot h.tail]
    have g := (List.pairwise_cons.mp h.gap).1
    by_cases a : s.1 ≤ p ∧ p ≤ s.2
    · have b : ¬ hasB l p = true := fun q => by
        obtain ⟨d, md, h1, h2⟩ := hasB_iff.mp q
        have := g d md
        omega
      rw [if_pos a, if_neg b, if_pos (hasB_iff.mpr ⟨s, List.mem_cons_self, a⟩)]
      rfl
    · rw [if_neg a]
      by_cases b : hasB l p = true
      · obtain ⟨d, md, h1⟩ := hasB_iff.mp b
        rw [if_pos b, if_pos (hasB_iff.mpr ⟨d, List.mem_cons_of_mem _ md, h1⟩)]
        rfl
      · rw [if_neg b, if_neg]
        · rfl
        · intro q
          obtain ⟨d, md, h1⟩ := hasB_iff.mp q
          rcases List.mem_cons.mp md with z | md
          · rw [z] at h1; exact a h1
          · exact b (hasB_iff.mpr ⟨d, md, h1⟩)
theorem spot_stable {l : List I2} (h : NF l) (p : Int) : lap (spot l) p ≤ 1 := by
  rw [lap_spot h]
  split <;> omega
/-- stretches apart are told by what places have -/
theorem NF_uniq : ∀ {l m : List I2}, NF l → NF m → (∀ p, hasB l p = hasB m p) → l = m
  | [], [], _, _, _ => rfl
  | [], s :: m, _, hm, h => by
    have := h s.1
    have q : hasB (s :: m) s.1 = true := hasB_iff.mpr ⟨s, List.mem_cons_self, Int.le_refl _, hm.le s List.mem_cons_self⟩
    rw [q] at this
    cases this
  | s :: l, [], hl, _, h => by
    have := h s.1
    have q : hasB (s :: l) s.1 = true := hasB_iff.mpr ⟨s, List.mem_cons_self, Int.le_refl _, hl.le s List.mem_cons_self⟩
    rw [q] at this
    cases this
  | s :: l, t :: m, hl, hm, h => by
    have ls := hl.le s List.mem_cons_self
    have lt := hm.le t List.mem_cons_self
    have gl := (List.pairwise_cons.mp hl.gap).1
    have gm := (List.pairwise_cons.mp hm.gap).1
    have lle := hl.tail.le
    have mle := hm.tail.le
    have in1 : ∀ p, s.1 ≤ p → p ≤ s.2 → ∃ d ∈ t :: m, d.1 ≤ p ∧ p ≤ d.2 := fun p a b => hasB_iff.mp (by rw [← h p]; exact hasB_iff.mpr ⟨s, List.mem_cons_self, a, b⟩)
    have in2 : ∀ p, t.1 ≤ p → p ≤ t.2 → ∃ d ∈ s :: l, d.1 ≤ p ∧ p ≤ d.2 := fun p a b => hasB_iff.mp (by rw [h p]; exact hasB_iff.mpr ⟨t, List.mem_cons_self, a, b⟩)
    have lo1 : ∀ d ∈ t :: m, t.1 ≤ d.1 := fun d md => by
      rcases List.mem_cons.mp md with z | md
      · rw [z]; exact Int.le_refl _
      · have := gm d md; omega
    have lo2 : ∀ d ∈ s :: l, s.1 ≤ d.1 := fun d md => by
      rcases List.mem_cons.mp md with z | md
      · rw [z]; exact Int.le_refl _
      · have := gl d md; omega
    have e1 : s.1 = t.1 := by
      obtain ⟨d, md, h1, h2⟩ := in1 s.1 (Int.le_refl _) ls
      obtain ⟨d', md', h1', h2'⟩ := in2 t.1 (Int.le_refl _) lt
      have := lo1 d md
      have := lo2 d' md'
      omega
    have e2 : s.2 = t.2 := by
      rcases Int.lt_trichotomy s.2 t.2 with q | q | q
      · obtain ⟨d, md, h1, h2⟩ := in2 (s.2 + 1) (by omega) (by omega)
        rcases List.mem_cons.mp md with z | md
        · rw [z] at h2; omega
        · have := gl d md; omega
      · exact q
      · obtain ⟨d, md, h1, h2⟩ := in1 (t.2 + 1) (by omega) (by omega)
        rcases List.mem_cons.mp md with z | md
        · rw [z] at h2; omega
        · have := gm d md; omega
    have e : s = t := Prod.ext e1 e2
    subst e
    have ht : ∀ p, hasB l p = hasB m p := fun p => by
      have := h p
      by_cases a : s.1 ≤ p ∧ p ≤ s.2
      · have b1 : hasB l p = false := by
          cases z : hasB l p with
          | false => rfl
          | true =>
            obtain ⟨d, md, h1, h2⟩ := hasB_iff.mp z
            have := gl d md
            omega
        have b2 : hasB m p = false := by
          cases z : hasB m p with
          | false => rfl
          | true =>
            obtain ⟨d, md, h1, h2⟩ := hasB_iff.mp z
            have := gm d md
            omega
        rw [b1, b2]
      · have c : (decide (s.1 ≤ p) && decide (p ≤ s.2)) = false := by
          rw [← Bool.decide_and]
          exact decide_eq_false a
        have d1 : hasB (s :: l) p = hasB l p := by
          show ((decide (s.1 ≤ p) && decide (p ≤ s.2)) || hasB l p) = _
          rw [c]; rfl
        have d2 : hasB (s :: m) p = hasB m p := by
          show ((decide (s.1 ≤ p) && decide (p ≤ s.2)) || hasB m p) = _
          rw [c]; rfl
        rw [d1, d2] at this
        exact this
    rw [NF_uniq hl.tail hm.tail ht]
theorem NF_pot {l m : List I2} (hl : NF l) (hm : NF m) (h : ∀ p, spot l p = spot m p) : l = m := by
  refine NF_uniq hl hm fun p => ?_
  have a := lap_spot hl p
  have b := lap_spot hm p
  have e : spot l = spot m := funext h
  rw [e, b] at a
  cases h1 : hasB l p <;> cases h2 : hasB m p <;> simp [h1, h2] at a ⊢
/-- heaps that can come to one state come to one end -/
theorem stretches_uniq {hs : List I2} (h0 : ∀ h ∈ hs, 0 ≤ h.2) {m : List I2} (hm : NF m) (R : Reach (hpot hs) (spot m)) : stretches hs = m := by
  obtain ⟨N, R1⟩ := stretches_ok h0
  have := uniq R1 R (spot_stable N) (spot_stable hm)
  exact NF_pot N hm fun p => by rw [this]
theorem stretches_congr {hs hs' : List I2} (h0 : ∀ h ∈ hs, 0 ≤ h.2) (h0' : ∀ h ∈ hs', 0 ≤ h.2) (h : ∀ p, hpot hs p = hpot hs' p) : stretches hs = stretches hs' := by
  obtain ⟨N, R1⟩ := stretches_ok h0'
  exact stretches_uniq h0 N (R1.eq_left h)
end Spr
/-! Plain law, part D: how great the numbers of clusters get. -/
namespace Spr
def M1 : Nat := 2 ^ 200
def M2 : Nat := 2 ^ 400
theorem M12 : M1 * M1 = M2 := by decide +kernel
def sN : List I2 → Nat
  | [] => 0
  | c :: t => c.1.natAbs + sN t
def sB : List I2 → Nat
  | [] => 0
  | c :: t => c.2.natAbs + sB t
structure PW (i : Nat) (st : List I2) (n b : Int) : Prop where
  pos : ∀ c ∈ st, 0 < c.1
  n0 : 0 < n
  bn : sN st + n.natAbs ≤ i * M1
  bb : sB st + b.natAbs ≤ i * M2
  len : st.length + 1 ≤ i
structure PB (i : Nat) (st : List I2) : Prop where
  pos : ∀ c ∈ st, 0 < c.1
  bn : sN st ≤ i * M1
  bb : sB st ≤ i * M2
  len : st.length ≤ i
theorem PW.step {i : Nat} {c : I2} {st : List I2} {n b : Int} (h : PW i (c :: st) n b) : PW i st (n + c.1) (b + c.2) := by
  have hc := h.pos c List.mem_cons_self
  have h0 := h.n0
  have h1 := h.bn
  have h2 := h.bb
  have h3 := h.len
  unfold sN at h1
  unfold sB at h2
  rw [List.length_cons] at h3
  exact ⟨fun d m => h.pos d (List.mem_cons_of_mem _ m), by omega, by omega, by omega, by omega⟩
theorem PW.push {i : Nat} {st : List I2} {n b : Int} (h : PW i st n b) : PB i ((n, b) :: st) := by
  refine ⟨fun c m => ?_, ?_, ?_, h.len⟩
  · rcases List.mem_cons.mp m with e | m
    · rw [e]; exact h.n0
    · exact h.pos c m
  · have := h.bn
    show n.natAbs + sN st ≤ _
    omega
  · have := h.bb
    show b.natAbs + sB st ≤ _
    omega
theorem PW.absorb : ∀ {i : Nat} {st : List I2} {n b : Int}, PW i st n b → PB i (absorb st n b)
  | i, [], n, b, h => h.push
  | i, c :: st, n, b, h => by
    unfold Spr.absorb
    split
    · exact h.step.absorb
    · exact h.push
theorem PB.start {i : Nat} {st : List I2} {x : I2} (h : PB i st) (h0 : 0 < x.2) (w1 : x.1.natAbs < M1) (w2 : x.2.natAbs < M1) : PW (i + 1) st x.2 (x.2 * x.1) := by
  have e : (x.2 * x.1).natAbs ≤ M2 := by
    rw [Int.natAbs_mul, ← M12]
    exact Nat.mul_le_mul (Nat.le_of_lt w2) (Nat.le_of_lt w1)
  have h1 := h.bn
  have h2 := h.bb
  have h3 := h.len
  have e1 := Nat.succ_mul i M1
  have e2 := Nat.succ_mul i M2
  exact ⟨h.pos, h0, by rw [e1]; omega, by rw [e2]; omega, by omega⟩
theorem PB.put {i : Nat} {st : List I2} {x : I2} (h : PB i st) (w1 : x.1.natAbs < M1) (w2 : x.2.natAbs < M1) : PB (i + 1) (put st x) := by
  unfold Spr.put
  split
  · next h0 => exact (h.start h0 w1 w2).absorb
  · have h1 := h.bn
    have h2 := h.bb
    have h3 := h.len
    have e1 := Nat.succ_mul i M1
    have e2 := Nat.succ_mul i M2
    exact ⟨h.pos, by rw [e1]; omega, by rw [e2]; omega, by omega⟩
theorem PB.nil : PB 0 [] := ⟨fun _ m => (nomatch m), Nat.zero_le _, Nat.zero_le _, Nat.le_refl _⟩
theorem PW.w1 {i : Nat} {st : List I2} {n b : Int} (h : PW i st n b) (hi : i ≤ 1001) : n.natAbs < 2 ^ 220 := by
  have h1 := h.bn
  have h2 : i * M1 ≤ 1001 * M1 := Nat.mul_le_mul_right _ hi
  have z : 1001 * M1 < (2 : Nat) ^ 220 := by decide +kernel
  exact Nat.lt_of_le_of_lt (Nat.le_trans (Nat.le_trans (Nat.le_add_left _ _) h1) h2) z
theorem PW.w2 {i : Nat} {st : List I2} {n b : Int} (h : PW i st n b) (hi : i ≤ 1001) : b.natAbs < 2 ^ 460 := by
  have h1 := h.bb
  have h2 : i * M2 ≤ 1001 * M2 := Nat.mul_le_mul_right _ hi
  have z : 1001 * M2 < (2 : Nat) ^ 460 := by decide +kernel
  exact Nat.lt_of_le_of_lt (Nat.le_trans (Nat.le_trans (Nat.le_add_left _ _) h1) h2) z
theorem PB.fold : ∀ {l st : List I2} {i : Nat}, PB i st → (∀ h ∈ l, h.1.natAbs < M1) → (∀ h ∈ l, h.2.natAbs < M1) → PB (i + l.length) (l.foldl Spr.put st)
  | [], st, i, h, _, _ => h
  | x :: l, st, i, h, h1, h2 => by
    have := (h.put (h1 x List.mem_cons_self) (h2 x List.mem_cons_self)).fold (fun y m => h1 y (List.mem_cons_of_mem _ m)) (fun y m => h2 y (List.mem_cons_of_mem _ m))
    rw [List.foldl_cons, List.length_cons]
    rw [show i + (l.length + 1) = i + 1 + l.length by omega]
    exact this
end Spr
/-! Plain law, part E: the law's own clusters, put together two by two, are the program's. -/
namespace Spr
def lawOver (n b : Int) : Int × Int × Option Int :=
  if n * ((2 * b - n * (n - 1)) / (2 * n)) + n * (n - 1) / 2 = b then ((2 * b - n * (n - 1)) / (2 * n), (2 * b - n * (n - 1)) / (2 * n) + n - 1, none)
  else ((2 * b - n * (n - 1)) / (2 * n), (2 * b - n * (n - 1)) / (2 * n) + n, some ((2 * b - n * (n - 1)) / (2 * n) + n - (b - n * ((2 * b - n * (n - 1)) / (2 * n)) - n * (n - 1) / 2)))
theorem lawOver_is {n b : Int} (hn : 0 < n) : lawOver n b = endsOf n b := by
  obtain ⟨t, ht⟩ : ∃ t, n * (n + 1) / 2 = t := ⟨_, rfl⟩
  have h2 : 2 * t = n * (n + 1) := by rw [← ht]; exact tri_two n
  obtain ⟨t', ht'⟩ : ∃ t', n * (n - 1) / 2 = t' := ⟨_, rfl⟩
  have e0 : n * (n - 1) = 2 * (t - n) := by
    have : n * (n - 1) = n * (n + 1) - 2 * n := by grind
    omega
  have h3 : t' = t - n := by
    rw [← ht', e0]
    omega
  obtain ⟨q, hq⟩ : ∃ q, (b - t) / n = q := ⟨_, rfl⟩
  obtain ⟨r, hr⟩ : ∃ r, (b - t) % n = r := ⟨_, rfl⟩
  have hd : b - t = n * q + r := by
    have := Int.mul_ediv_add_emod (b - t) n
    rw [hq, hr] at this
    omega
  have r0 : 0 ≤ r := by rw [← hr]; exact Int.emod_nonneg _ (by omega)
  have r1 : r < n := by rw [← hr]; exact Int.emod_lt_of_pos _ hn
  have f1 : (2 * b - n * (n - 1)) / (2 * n) = q + 1 := by
    have e1 : 2 * b - n * (n - 1) = 2 * r + (2 * n) * (q + 1) := by
      rw [e0]
      have : (2 * n) * (q + 1) = 2 * (n * q) + 2 * n := by grind
      omega
    rw [e1, Int.add_mul_ediv_left _ _ (by omega), Int.ediv_eq_zero_of_lt (by omega) (by omega)]
    omega
  have e3 : n * (q + 1) = n * q + n := by grind
  unfold lawOver endsOf
  rw [ht, ht', f1, hq, hr, e3]
  by_cases c : r = 0
  · rw [if_pos c, if_pos (by omega)]
    have : q + 1 + n - 1 = q + n := by omega
    rw [this]
  · rw [if_neg c, if_neg (by omega)]
    have e4 : (n + 1) * (q + 1) = n * q + n + q + 1 := by grind
    have : q + 1 + n - (b - (n * q + n) - t') = (n + 1) * (q + 1) + t - b := by omega
    rw [this]
def raw (l : List I2) : List I2 := (l.filter fun h => decide (0 < h.2)).map fun h => (h.2, h.2 * h.1)
def piles (st l : List I2) : List I2 := l.foldl (fun st g => absorb st g.1 g.2) st
theorem raw_pos {x : I2} {l : List I2} (h : 0 < x.2) : raw (x :: l) = (x.2, x.2 * x.1) :: raw l := by
  unfold raw
  rw [List.filter_cons_of_pos (p := fun h : I2 => decide (0 < h.2)) (by exact decide_eq_true h)]
  rfl
theorem raw_neg {x : I2} {l : List I2} (h : ¬ 0 < x.2) : raw (x :: l) = raw l := by
  unfold raw
  rw [List.filter_cons_of_neg (p := fun h : I2 => decide (0 < h.2)) (by rw [decide_eq_false h]; decide)]
theorem fold_raw : ∀ (l st : List I2), l.foldl put st = piles st (raw l)
  | [], _ => rfl
  | x :: l, st => by
    rw [List.foldl_cons, fold_raw l]
    unfold put
    by_cases h : 0 < x.2
    · rw [if_pos h, raw_pos h]
      rfl
    · rw [if_neg h, raw_neg h]
theorem sim_apart {c g : I2} {st rest : List I2} (h : ¬ firstOf g ≤ lastOf c) : piles (c :: st) (g :: rest) = piles (g :: c :: st) rest := by
  show piles (absorb (c :: st) g.1 g.2) rest = _
  rw [absorb, if_neg h]
theorem sim_meet0 {c g : I2} {rest : List I2} (h : firstOf g ≤ lastOf c) : piles [c] (g :: rest) = piles [(c.1 + g.1, c.2 + g.2)] rest := by
  show piles (absorb [c] g.1 g.2) rest = _
  rw [absorb, if_pos h, absorb, Int.add_comm g.1, Int.add_comm g.2]
theorem sim_meet {c g p : I2} {st rest : List I2} (h : firstOf g ≤ lastOf c) : piles (c :: p :: st) (g :: rest) = piles (p :: st) ((c.1 + g.1, c.2 + g.2) :: rest) := by
  show piles (absorb (c :: p :: st) g.1 g.2) rest = piles (absorb (p :: st) (c.1 + g.1) (c.2 + g.2)) rest
  rw [absorb, if_pos h, Int.add_comm g.1, Int.add_comm g.2]
/-- where the law's loop stands: what lies ahead of its place is a pile -/
def LI (t G : List I2) (a : Nat) : Prop := (G = [] ∧ a = 0 ∧ t = []) ∨ ∃ st c rest, G = st.reverse ++ c :: rest ∧ a = st.length ∧ piles (c :: st) rest = t
theorem LI.start (l : List I2) : LI (piles [] l) l 0 := by
  cases l with
  | nil => exact .inl ⟨rfl, rfl, rfl⟩
  | cons c rest => exact .inr ⟨[], c, rest, rfl, rfl, rfl⟩
theorem LI.end_ {t G : List I2} {a : Nat} (h : LI t G a) (hl : ¬ a + 1 < G.length) : G = t.reverse := by
  rcases h with ⟨rfl, rfl, rfl⟩ | ⟨st, c, rest, rfl, rfl, rfl⟩
  · rfl
  · cases rest with
    | nil =>
      show _ = (c :: st).reverse
      rw [List.reverse_cons]
    | cons g rest =>
      rw [List.length_append, List.length_reverse, List.length_cons, List.length_cons] at hl
      omega
theorem set_mid {α : Type} (m : α) : ∀ (pre : List α) (c : α) (r : List α), (pre ++ c :: r).set pre.length m = pre ++ m :: r
  | [], _, _ => rfl
  | x :: pre, c, r => congrArg (x :: ·) (set_mid m pre c r)
theorem erase_mid {α : Type} : ∀ (pre : List α) (m g : α) (r : List α), (pre ++ m :: g :: r).eraseIdx (pre.length + 1) = pre ++ m :: r
  | [], _, _, _ => rfl
  | x :: pre, m, g, r => congrArg (x :: ·) (erase_mid pre m g r)
theorem get_mid {α : Type} : ∀ (pre : List α) (c : α) (r : List α), (pre ++ c :: r)[pre.length]? = some c
  | [], _, _ => rfl
  | x :: pre, c, r => get_mid pre c r
theorem get_mid1 {α : Type} : ∀ (pre : List α) (c g : α) (r : List α), (pre ++ c :: g :: r)[pre.length + 1]? = some g
  | [], _, _, _ => rfl
  | x :: pre, c, g, r => get_mid1 pre c g r
theorem sN_app (a b : List I2) : sN (a ++ b) = sN a + sN b := by
  induction a with
  | nil => show sN b = 0 + sN b; omega
  | cons x a ih => show x.1.natAbs + sN (a ++ b) = x.1.natAbs + sN a + sN b; omega
theorem sB_app (a b : List I2) : sB (a ++ b) = sB a + sB b := by
  induction a with
  | nil => show sB b = 0 + sB b; omega
  | cons x a ih => show x.2.natAbs + sB (a ++ b) = x.2.natAbs + sB a + sB b; omega
theorem PB.mid {i : Nat} {pre r : List I2} {c g : I2} (h : PB i (pre ++ c :: g :: r)) : PB i (pre ++ (c.1 + g.1, c.2 + g.2) :: r) := by
  have h1 := h.bn
  have h2 := h.bb
  have h3 := h.len
  rw [sN_app] at h1
  rw [sB_app] at h2
  rw [List.length_append, List.length_cons, List.length_cons] at h3
  have hc := h.pos c (by simp)
  have hg := h.pos g (by simp)
  refine ⟨fun x m => ?_, ?_, ?_, ?_⟩
  · rcases List.mem_append.mp m with m | m
    · exact h.pos x (List.mem_append_left _ m)
    · rcases List.mem_cons.mp m with e | m
      · rw [e]; show 0 < c.1 + g.1; omega
      · exact h.pos x (by simp [m])
  · rw [sN_app]
    have e : sN (c :: g :: r) = c.1.natAbs + (g.1.natAbs + sN r) := rfl
    show _ + ((c.1 + g.1).natAbs + sN r) ≤ _
    omega
  · rw [sB_app]
    have e : sB (c :: g :: r) = c.2.natAbs + (g.2.natAbs + sB r) := rfl
    show _ + ((c.2 + g.2).natAbs + sB r) ≤ _
    omega
  · rw [List.length_append, List.length_cons]
    omega
theorem LI.step {t G : List I2} {a i : Nat} (h : LI t G a) (hl : a + 1 < G.length) (B : PB i G) : ∃ c g, G[a]? = some c ∧ G[a + 1]? = some g ∧ 0 < c.1 ∧ 0 < g.1 ∧
    (firstOf g ≤ lastOf c → LI t ((G.set a (c.1 + g.1, c.2 + g.2)).eraseIdx (a + 1)) (a - 1) ∧ PB i ((G.set a (c.1 + g.1, c.2 + g.2)).eraseIdx (a + 1)) ∧ ((G.set a (c.1 + g.1, c.2 + g.2)).eraseIdx (a + 1)).length + 1 = G.length) ∧ (¬ firstOf g ≤ lastOf c → LI t G (a + 1)) := by
  rcases h with ⟨rfl, rfl, rfl⟩ | ⟨st, c, rest, rfl, rfl, rfl⟩
  · exact absurd hl (by decide)
  · cases rest with
    | nil =>
      rw [List.length_append, List.length_reverse, List.length_singleton] at hl
      omega
    | cons g rest =>
      have el : st.length = st.reverse.length := by rw [List.length_reverse]
      have e1 : (st.reverse ++ c :: g :: rest).set st.length (c.1 + g.1, c.2 + g.2) = st.reverse ++ (c.1 + g.1, c.2 + g.2) :: g :: rest := by
        rw [el]; exact set_mid _ _ _ _
      have e2 : ((st.reverse ++ c :: g :: rest).set st.length (c.1 + g.1, c.2 + g.2)).eraseIdx (st.length + 1) = st.reverse ++ (c.1 + g.1, c.2 + g.2) :: rest := by
        rw [e1, el]; exact erase_mid _ _ _ _
      refine ⟨c, g, ?_, ?_, B.pos c (by simp), B.pos g (by simp), fun hm => ⟨?_, ?_, ?_⟩, fun hm => ?_⟩
      · rw [el]; exact get_mid _ _ _
      · rw [el]; exact get_mid1 _ _ _ _
      · rw [e2]
        cases st with
        | nil => exact .inr ⟨[], _, rest, rfl, rfl, (sim_meet0 hm).symm⟩
        | cons p st =>
          refine .inr ⟨st, p, (c.1 + g.1, c.2 + g.2) :: rest, ?_, rfl, (sim_meet hm).symm⟩
          rw [List.reverse_cons, List.append_assoc]
          rfl
      · rw [e2]
        exact B.mid
      · rw [e2, List.length_append, List.length_append, List.length_cons, List.length_cons, List.length_cons]
        omega
      · refine .inr ⟨c :: st, g, rest, ?_, rfl, (sim_apart hm).symm⟩
        rw [List.reverse_cons, List.append_assoc]
        rfl
theorem PB.raw {l : List I2} (w1 : ∀ h ∈ l, h.1.natAbs < M1) (w2 : ∀ h ∈ l, h.2.natAbs < M1) : PB l.length (raw l) := by
  induction l with
  | nil => exact .nil
  | cons x l ih =>
    have q := ih (fun h m => w1 h (List.mem_cons_of_mem _ m)) (fun h m => w2 h (List.mem_cons_of_mem _ m))
    have h1 := q.bn
    have h2 := q.bb
    have h3 := q.len
    have e1 := Nat.succ_mul l.length M1
    have e2 := Nat.succ_mul l.length M2
    rw [List.length_cons]
    by_cases h : 0 < x.2
    · rw [raw_pos h]
      have e : (x.2 * x.1).natAbs ≤ M2 := by
        rw [Int.natAbs_mul, ← M12]
        exact Nat.mul_le_mul (Nat.le_of_lt (w2 x List.mem_cons_self)) (Nat.le_of_lt (w1 x List.mem_cons_self))
      have e4 := w2 x List.mem_cons_self
      refine ⟨fun c m => ?_, ?_, ?_, ?_⟩
      · rcases List.mem_cons.mp m with z | m
        · rw [z]; exact h
        · exact q.pos c m
      · rw [e1]
        show x.2.natAbs + sN _ ≤ _
        omega
      · rw [e2]
        show (x.2 * x.1).natAbs + sB _ ≤ _
        omega
      · rw [List.length_cons]
        omega
    · rw [raw_neg h]
      exact ⟨q.pos, by rw [e1]; omega, by rw [e2]; omega, by omega⟩
theorem PB.get {i : Nat} {G : List I2} {c : I2} (h : PB i G) (hi : i ≤ 1001) (m : c ∈ G) : 0 < c.1 ∧ c.1.natAbs < 2 ^ 220 ∧ c.2.natAbs < 2 ^ 460 := by
  obtain ⟨a, b, rfl⟩ := List.append_of_mem m
  have h1 := h.bn
  have h2 := h.bb
  rw [sN_app] at h1
  rw [sB_app] at h2
  have e1 : sN (c :: b) = c.1.natAbs + sN b := rfl
  have e2 : sB (c :: b) = c.2.natAbs + sB b := rfl
  have h3 : i * M1 ≤ 1001 * M1 := Nat.mul_le_mul_right _ hi
  have h4 : i * M2 ≤ 1001 * M2 := Nat.mul_le_mul_right _ hi
  have z1 : 1001 * M1 < (2 : Nat) ^ 220 := by decide +kernel
  have z2 : 1001 * M2 < (2 : Nat) ^ 460 := by decide +kernel
  refine ⟨h.pos c m, Nat.lt_of_le_of_lt ?_ z1, Nat.lt_of_le_of_lt ?_ z2⟩ <;> omega
end Spr
/-! Plain law, part F: what is counted over stretches; how great their ends get; another order. -/
namespace Spr
def tot (f : I2 → Int) (l : List I2) : Int := (l.map f).sum
theorem tot_nil (f : I2 → Int) : tot f [] = 0 := rfl
theorem tot_cons (f : I2 → Int) (x : I2) (l : List I2) : tot f (x :: l) = f x + tot f l := by
  unfold tot
  rw [List.map_cons, List.sum_cons]
theorem tot_app (f : I2 → Int) (a b : List I2) : tot f (a ++ b) = tot f a + tot f b := by
  induction a with
  | nil => rw [List.nil_append, tot_nil]; omega
  | cons x a ih => rw [List.cons_append, tot_cons, tot_cons, ih]; omega
theorem tot_rev (f : I2 → Int) (a : List I2) : tot f a.reverse = tot f a := by
  induction a with
  | nil => rfl
  | cons x a ih => rw [List.reverse_cons, tot_app, ih, tot_cons, tot_cons, tot_nil]; omega
theorem tot_perm (f : I2 → Int) {a b : List I2} (h : a.Perm b) : tot f a = tot f b := by
  induction h with
  | nil => rfl
  | cons x h ih => rw [tot_cons, tot_cons, ih]
  | swap x y l => rw [tot_cons, tot_cons, tot_cons, tot_cons]; omega
  | trans h1 h2 i1 i2 => rw [i1, i2]
theorem tot_congr {f g : I2 → Int} {l : List I2} (h : ∀ x ∈ l, f x = g x) : tot f l = tot g l := by
  induction l with
  | nil => rfl
  | cons x l ih => rw [tot_cons, tot_cons, h x List.mem_cons_self, ih fun y m => h y (List.mem_cons_of_mem _ m)]
theorem joins_tot {φ : I2 → Int} (hφ : ∀ a z y, φ (a, z) + φ (z + 1, y) = φ (a, y)) : ∀ ps acc : List I2, tot φ (ps.foldl joinp acc) = tot φ acc + tot φ ps
  | [], acc => by rw [tot_nil]; show tot φ acc = _; omega
  | s :: ps, acc => by
    rw [List.foldl_cons, joins_tot hφ ps, tot_cons]
    cases acc with
    | nil =>
      show tot φ [s] + _ = _
      rw [tot_cons, tot_nil]; omega
    | cons q t =>
      unfold joinp
      dsimp only
      split
      · next e =>
        rw [tot_cons, tot_cons]
        have := hφ q.1 q.2 s.2
        have e2 : φ (q.2 + 1, s.2) = φ s := by rw [e]
        have e3 : φ (q.1, q.2) = φ q := rfl
        omega
      · rw [tot_cons, tot_cons]; omega
theorem absorb_tot {g : I2 → Int} (hg : ∀ a b c d, g (a + c, b + d) = g (a, b) + g (c, d)) : ∀ (st : List I2) (n b : Int), tot g (absorb st n b) = tot g st + g (n, b)
  | [], n, b => by rw [absorb, tot_cons, tot_nil]; omega
  | c :: st, n, b => by
    rw [absorb]
    split
    · rw [absorb_tot hg st, hg, tot_cons]
      have : g (c.1, c.2) = g c := rfl
      omega
    · rw [tot_cons, tot_cons]; omega
theorem fold_tot {g : I2 → Int} (hg : ∀ a b c d, g (a + c, b + d) = g (a, b) + g (c, d)) : ∀ (l st : List I2), (∀ h ∈ l, 0 ≤ h.2) → tot g (l.foldl put st) = tot g st + tot (fun h => g (h.2, h.2 * h.1)) l
  | [], st, _ => by rw [tot_nil]; show tot g st = _; omega
  | x :: l, st, h0 => by
    rw [List.foldl_cons, fold_tot hg l _ fun h m => h0 h (List.mem_cons_of_mem _ m), tot_cons]
    unfold put
    split
    · rw [absorb_tot hg]; omega
    · have e : x.2 = 0 := by have := h0 x List.mem_cons_self; omega
      have z := hg 0 0 0 0
      rw [e, Int.zero_mul]
      have z2 : g (0 + 0, 0 + 0) = g (0, 0) := rfl
      omega
/-- what is counted over the stretches is what is counted over the heaps -/
theorem stretches_tot {φ g : I2 → Int} (hφ : ∀ a z y, φ (a, z) + φ (z + 1, y) = φ (a, y)) (hg : ∀ a b c d, g (a + c, b + d) = g (a, b) + g (c, d))
    (hp : ∀ c : I2, Good c.1 c.2 → tot φ (parts c) = g c) {hs : List I2} (h0 : ∀ h ∈ hs, 0 ≤ h.2) : tot φ (stretches hs) = tot (fun h => g (h.2, h.2 * h.1)) hs := by
  obtain ⟨P, _⟩ := clus_ok h0
  have e1 : tot φ (stretches hs) = tot φ ((clus hs).flatMap parts) := by
    unfold stretches
    rw [tot_rev, joins_tot hφ, tot_nil]; omega
  have e2 : ∀ l : List I2, (∀ c ∈ l, Good c.1 c.2) → tot φ (l.flatMap parts) = tot g l := by
    intro l
    induction l with
    | nil => intro _; rfl
    | cons c l ih =>
      intro hl
      rw [List.flatMap_cons, tot_app, tot_cons, hp c (hl c List.mem_cons_self), ih fun d m => hl d (List.mem_cons_of_mem _ m)]
  have e3 : tot g (clus hs) = tot g (clusS (srt hs)) := tot_rev g _
  have e4 : tot g (clusS (srt hs)) = tot (fun h => g (h.2, h.2 * h.1)) (srt hs) := by
    unfold clusS
    rw [fold_tot hg _ _ fun h m => h0 h ((srt_perm hs).mem_iff.mp m), tot_nil]; omega
  rw [e1, e2 (clus hs) fun c m => P.good c (List.mem_reverse.mp m), e3, e4, tot_perm _ (srt_perm hs)]
/-- as many -/
theorem mass_ok {hs : List I2} (h0 : ∀ h ∈ hs, 0 ≤ h.2) : tot (fun s => s.2 - s.1 + 1) (stretches hs) = tot (fun h => h.2) hs := by
  refine stretches_tot (g := fun c => c.1) (fun a z y => by show z - a + 1 + (y - (z + 1) + 1) = y - a + 1; omega) (fun a b c d => rfl) (fun c g => ?_) h0
  obtain ⟨V, e1, _⟩ := g.at
  unfold parts
  cases e : emptyOf c with
  | none =>
    rw [e] at e1
    rw [tot_cons, tot_nil]
    show lastOf c - firstOf c + 1 + 0 = c.1
    rw [e1]
    show _ = lastOf c - firstOf c + 1
    omega
  | some x =>
    rw [e] at e1
    rw [tot_cons, tot_cons, tot_nil]
    show x - 1 - firstOf c + 1 + (lastOf c - (x + 1) + 1 + 0) = c.1
    rw [e1]
    show _ = lastOf c - firstOf c
    omega
/-- the same sum of places -/
theorem mom_ok {hs : List I2} (h0 : ∀ h ∈ hs, 0 ≤ h.2) : tot (fun s => (s.1 + s.2) * (s.2 - s.1 + 1)) (stretches hs) = 2 * tot (fun h => h.1 * h.2) hs := by
  have q := stretches_tot (φ := fun s => (s.1 + s.2) * (s.2 - s.1 + 1)) (g := fun c => 2 * c.2) (fun a z y => by show (a + z) * (z - a + 1) + (z + 1 + y) * (y - (z + 1) + 1) = (a + y) * (y - a + 1); grind) (fun a b c d => by show 2 * (b + d) = 2 * b + 2 * d; omega) (fun c g => ?_) h0
  · rw [q]
    have e : ∀ l : List I2, tot (fun h => 2 * (h.2 * h.1)) l = 2 * tot (fun h => h.1 * h.2) l := by
      intro l
      induction l with
      | nil => rfl
      | cons x l ih => rw [tot_cons, tot_cons, ih, Int.mul_comm x.2]; omega
    exact e hs
  · obtain ⟨V, _, e2⟩ := g.at
    have t1 := tri_two (lastOf c)
    have t2 := tri_two (firstOf c - 1)
    unfold parts
    cases e : emptyOf c with
    | none =>
      rw [e] at e2
      rw [tot_cons, tot_nil]
      show (firstOf c + lastOf c) * (lastOf c - firstOf c + 1) + 0 = 2 * c.2
      rw [e2]
      show _ = 2 * (tri (lastOf c) - tri (firstOf c - 1))
      have : (firstOf c + lastOf c) * (lastOf c - firstOf c + 1) = lastOf c * (lastOf c + 1) - (firstOf c - 1) * (firstOf c - 1 + 1) := by grind
      omega
    | some x =>
      rw [e] at e2
      rw [tot_cons, tot_cons, tot_nil]
      show (firstOf c + (x - 1)) * (x - 1 - firstOf c + 1) + ((x + 1 + lastOf c) * (lastOf c - (x + 1) + 1) + 0) = 2 * c.2
      rw [e2]
      show _ = 2 * (tri (lastOf c) - tri (firstOf c - 1) - x)
      have : (firstOf c + (x - 1)) * (x - 1 - firstOf c + 1) + (x + 1 + lastOf c) * (lastOf c - (x + 1) + 1) = lastOf c * (lastOf c + 1) - (firstOf c - 1) * (firstOf c - 1 + 1) - 2 * x := by grind
      omega
/-- another order of the heaps -/
theorem stretches_perm {hs hs' : List I2} (h : hs.Perm hs') : stretches hs = stretches hs' := by
  unfold stretches clus
  rw [srt_congr h]
/-! ### how great -/
theorem joins_all {p : Int → Prop} : ∀ ps acc : List I2, (∀ s ∈ ps, p s.1 ∧ p s.2) → (∀ s ∈ acc, p s.1 ∧ p s.2) → ∀ s ∈ ps.foldl joinp acc, p s.1 ∧ p s.2
  | [], acc, _, h2 => h2
  | s :: ps, acc, h1, h2 => by
    rw [List.foldl_cons]
    have hs := h1 s List.mem_cons_self
    refine joins_all ps _ (fun q m => h1 q (List.mem_cons_of_mem _ m)) fun q m => ?_
    cases acc with
    | nil =>
      have : q = s := List.mem_singleton.mp m
      rw [this]; exact hs
    | cons u t =>
      unfold joinp at m
      dsimp only at m
      split at m
      · rcases List.mem_cons.mp m with z | m
        · rw [z]; exact ⟨(h2 u List.mem_cons_self).1, hs.2⟩
        · exact h2 q (List.mem_cons_of_mem _ m)
      · rcases List.mem_cons.mp m with z | m
        · rw [z]; exact hs
        · exact h2 q m
theorem stretches_in {hs : List I2} (h0 : ∀ h ∈ hs, 0 ≤ h.2) {p : Int → Prop} (hp : ∀ c ∈ clus hs, ∀ x, firstOf c ≤ x → x ≤ lastOf c → p x) : ∀ s ∈ stretches hs, p s.1 ∧ p s.2 := by
  obtain ⟨P, _⟩ := clus_ok h0
  intro s m
  refine joins_all ((clus hs).flatMap parts) [] (fun q mq => ?_) (fun q mq => nomatch mq) s (List.mem_reverse.mp m)
  obtain ⟨c, mc, mq⟩ := List.mem_flatMap.mp mq
  have := (parts_ok (P.good c (List.mem_reverse.mp mc))).1 q mq
  exact ⟨hp c mc _ (by omega) (by omega), hp c mc _ (by omega) (by omega)⟩
theorem ends_wd {n b : Int} (hn : 0 < n) (w1 : n.natAbs < 2 ^ 220) (w2 : b.natAbs < 2 ^ 460) : (firstOf (n, b)).natAbs < 2 ^ 700 ∧ (lastOf (n, b)).natAbs < 2 ^ 700 := by
  have d1 : n * (n + 1) / 2 = tri n := rfl
  have t0 : 0 ≤ tri n := by
    have := tri_two n
    have := Int.mul_nonneg (a := n) (b := n + 1) (by omega) (by omega)
    omega
  have t1 : tri n ≤ n * n := by
    have := tri_two n
    have e : n * (n + 1) = n * n + n := by grind
    have : n ≤ n * n := by
      have := Int.mul_le_mul_of_nonneg_left (a := 1) (b := n) (c := n) (by omega) (by omega)
      omega
    omega
  have t2 : (n * n).natAbs < 2 ^ 440 := by
    rw [Int.natAbs_mul, show (2 : Nat) ^ 440 = 2 ^ 220 * 2 ^ 220 by decide +kernel]
    exact Nat.mul_lt_mul'' w1 w1
  have t3 : (b - tri n).natAbs ≤ b.natAbs + (n * n).natAbs := by omega
  have t4 : ((b - tri n) / n).natAbs ≤ (b - tri n).natAbs := Int.natAbs_ediv_le_natAbs _ _
  have z : (2 : Nat) ^ 460 + 2 ^ 440 + 2 ^ 220 + 1 < 2 ^ 700 := by decide +kernel
  unfold firstOf lastOf endsOf
  rw [d1]
  generalize (2 : Nat) ^ 700 = Z at *
  generalize (2 : Nat) ^ 460 = Z1 at *
  generalize (2 : Nat) ^ 440 = Z2 at *
  generalize (2 : Nat) ^ 220 = Z3 at *
  dsimp only
  split
  · dsimp only
    generalize (b - tri n) / n = y at *
    omega
  · dsimp only
    generalize (b - tri n) / n = y at *
    omega
theorem abs_mid {a b x : Int} {N : Nat} (h1 : a ≤ x) (h2 : x ≤ b) (ha : a.natAbs < N) (hb : b.natAbs < N) : x.natAbs < N := by omega
end Spr
/-! Plain law, part G: how often a place gives, how often all do. -/
namespace Spr
def gaveI (hs : List I2) (p : Int) : Int := spot (stretches hs) p - hpot hs p
theorem gave_nonneg {hs : List I2} (h0 : ∀ h ∈ hs, 0 ≤ h.2) (p : Int) : 0 ≤ gaveI hs p := by
  have := (stretches_ok h0).2.le p
  unfold gaveI
  omega
/-! ### as the program reckons -/
def endI (l p : Int) : Int := if p - 1 < l then p - 1 else l
def ivc (f l p : Int) : Int := if f ≤ endI l p then (endI l p - f + 1) * p - (endI l p - f + 1) * (f + endI l p) / 2 else 0
theorem ivc_is {f l : Int} (h : f ≤ l) (p : Int) : ivc f l p = iv f l p := by
  unfold ivc endI
  by_cases c1 : p - 1 < l
  · rw [if_pos c1]
    by_cases c2 : f ≤ p - 1
    · rw [if_pos c2]
      unfold iv
      rw [up_high (by omega), up_low (by omega)]
      obtain ⟨m, hm⟩ : ∃ m, p = f + m := ⟨p - f, by omega⟩
      subst hm
      have t := tri_two m
      have e1 : f + m - 1 - f + 1 = m := by omega
      have e2 : f + (f + m - 1) = 2 * f + m - 1 := by omega
      have e3 : f + m - f = m := by omega
      rw [e1, e2, e3]
      have e4 : m * (2 * f + m - 1) = 2 * (m * (f + m)) - m * (m + 1) := by grind
      rw [e4]
      omega
    · rw [if_neg c2]
      unfold iv
      rw [up_low (by omega), up_low (by omega)]
      rfl
  · rw [if_neg c1, if_pos h]
    unfold iv
    rw [up_high (by omega), up_high (by omega)]
    obtain ⟨m, hm⟩ : ∃ m, l = f + m - 1 := ⟨l - f + 1, by omega⟩
    subst hm
    obtain ⟨u, hu⟩ : ∃ u, p = f + m + u := ⟨p - f - m, by omega⟩
    subst hu
    have t1 := tri_two (m + u)
    have t2 := tri_two u
    have e1 : f + m - 1 - f + 1 = m := by omega
    have e2 : f + (f + m - 1) = 2 * f + m - 1 := by omega
    have e3 : f + m + u - f = m + u := by omega
    have e5 : f + m + u - (f + m - 1 + 1) = u := by omega
    rw [e1, e2, e3, e5]
    have e4 : m * (2 * f + m - 1) = 2 * (m * (f + m + u)) - ((m + u) * (m + u + 1) - u * (u + 1)) := by grind
    rw [e4]
    omega
def chipc (s p c : Int) : Int := if s < p then (p - s) * c else 0
theorem chipc_is (s p c : Int) : chipc s p c = c * chip s p := by
  unfold chipc chip
  by_cases h : s < p
  · rw [if_pos h, if_neg (by omega), Int.mul_comm]
  · rw [if_neg h, if_pos (by omega), Int.mul_zero]
theorem spot_snoc (l : List I2) (s : I2) (p : Int) : spot (l ++ [s]) p = spot l p + iv s.1 s.2 p := by
  rw [spot_append]
  show _ + (iv s.1 s.2 p + 0) = _
  omega
theorem hpot_snoc (l : List I2) (h : I2) (p : Int) : hpot (l ++ [h]) p = hpot l p + h.2 * chip h.1 p := by
  rw [hpot_append]
  show _ + (h.2 * chip h.1 p + 0) = _
  omega
/-! ### what it has in the end -/
def hadI (hs : List I2) (p : Int) : Int := tot (fun h => h.2) (hs.filter fun h => decide (h.1 = p))
theorem lap_hpot : ∀ (hs : List I2) (p : Int), lap (hpot hs) p = hadI hs p
  | [], p => rfl
  | h :: t, p => by
    have e : lap (hpot (h :: t)) p = h.2 * lap (chip h.1) p + lap (hpot t) p := by
      show (h.2 * _ + hpot t _) + (h.2 * _ + hpot t _) - 2 * (h.2 * _ + hpot t _) = _
      unfold lap
      rw [Int.mul_sub h.2, Int.mul_add h.2]
      have : h.2 * (2 * chip h.1 p) = 2 * (h.2 * chip h.1 p) := by rw [Int.mul_left_comm]
      omega
    rw [e, lap_chip, lap_hpot t]
    unfold hadI
    by_cases c : h.1 = p
    · rw [if_pos c.symm, List.filter_cons_of_pos (p := fun h : I2 => decide (h.1 = p)) (by exact decide_eq_true c), tot_cons, Int.mul_one]
    · rw [if_neg (fun z => c z.symm), List.filter_cons_of_neg (p := fun h : I2 => decide (h.1 = p)) (by rw [decide_eq_false c]; decide), Int.mul_zero]
      omega
theorem gave_lap {hs : List I2} (h0 : ∀ h ∈ hs, 0 ≤ h.2) (p : Int) : hadI hs p + gaveI hs (p - 1) + gaveI hs (p + 1) - 2 * gaveI hs p = if hasB (stretches hs) p = true then 1 else 0 := by
  rw [← lap_spot (stretches_ok h0).1, ← lap_hpot]
  unfold lap gaveI
  omega
/-! ### far out -/
theorem hpot_nonneg {hs : List I2} (h0 : ∀ h ∈ hs, 0 ≤ h.2) (p : Int) : 0 ≤ hpot hs p := by
  induction hs with
  | nil => exact Int.le_refl 0
  | cons h t ih =>
    have h1 := ih fun x m => h0 x (List.mem_cons_of_mem _ m)
    have h2 := h0 h List.mem_cons_self
    have h3 : 0 ≤ chip h.1 p := by unfold chip; split <;> omega
    have h4 := Int.mul_nonneg h2 h3
    show 0 ≤ h.2 * chip h.1 p + hpot t p
    omega
theorem spot_left {l : List I2} {p : Int} (h : ∀ s ∈ l, s.1 ≤ s.2 ∧ p ≤ s.1) : spot l p = 0 := by
  induction l with
  | nil => rfl
  | cons s l ih =>
    have h1 := ih fun x m => h x (List.mem_cons_of_mem _ m)
    obtain ⟨h2, h3⟩ := h s List.mem_cons_self
    show iv s.1 s.2 p + spot l p = 0
    unfold iv
    rw [up_low (by omega), up_low (by omega), h1]
    rfl
theorem gave_left {hs : List I2} (h0 : ∀ h ∈ hs, 0 ≤ h.2) {p : Int} (h : ∀ s ∈ stretches hs, p ≤ s.1) : gaveI hs p = 0 := by
  have h1 := gave_nonneg h0 p
  have h2 := hpot_nonneg h0 p
  have h3 := spot_left (l := stretches hs) (p := p) fun s m => ⟨(stretches_ok h0).1.le s m, h s m⟩
  unfold gaveI at *
  omega
theorem up_high1 {l p : Int} (h : l ≤ p + 1) : up l p = tri (p - l) := by
  by_cases c : l ≤ p
  · exact up_high c
  · rw [up_low (by omega), show p - l = -1 by omega]
    rfl
theorem spot_right {l : List I2} {p : Int} (h : ∀ s ∈ l, s.1 ≤ s.2 ∧ s.2 ≤ p) : 2 * spot l p = 2 * p * tot (fun s => s.2 - s.1 + 1) l - tot (fun s => (s.1 + s.2) * (s.2 - s.1 + 1)) l := by
  induction l with
  | nil => rw [tot_nil, tot_nil]; show 2 * (0 : Int) = 2 * p * 0 - 0; omega
  | cons s l ih =>
    have h1 := ih fun x m => h x (List.mem_cons_of_mem _ m)
    obtain ⟨h2, h3⟩ := h s List.mem_cons_self
    rw [tot_cons, tot_cons]
    show 2 * (iv s.1 s.2 p + spot l p) = _
    unfold iv
    rw [up_high1 (show s.1 ≤ p + 1 by omega), up_high1 (show s.2 + 1 ≤ p + 1 by omega)]
    have t1 := tri_two (p - s.1)
    have t2 := tri_two (p - (s.2 + 1))
    have e : (p - s.1) * (p - s.1 + 1) - (p - (s.2 + 1)) * (p - (s.2 + 1) + 1) = 2 * p * (s.2 - s.1 + 1) - (s.1 + s.2) * (s.2 - s.1 + 1) := by grind
    have e2 : 2 * p * (s.2 - s.1 + 1 + tot (fun s => s.2 - s.1 + 1) l) = 2 * p * (s.2 - s.1 + 1) + 2 * p * tot (fun s => s.2 - s.1 + 1) l := Int.mul_add _ _ _
    omega
theorem hpot_least {hs : List I2} (h0 : ∀ h ∈ hs, 0 ≤ h.2) (p : Int) : p * tot (fun h => h.2) hs - tot (fun h => h.1 * h.2) hs ≤ hpot hs p := by
  induction hs with
  | nil => rw [tot_nil, tot_nil]; show p * 0 - 0 ≤ 0; omega
  | cons h t ih =>
    have h1 := ih fun x m => h0 x (List.mem_cons_of_mem _ m)
    have h2 := h0 h List.mem_cons_self
    have h3 : p - h.1 ≤ chip h.1 p := by unfold chip; split <;> omega
    have h4 := Int.mul_le_mul_of_nonneg_left h3 h2
    have e1 : h.2 * (p - h.1) = p * h.2 - h.1 * h.2 := by grind
    have e2 : p * (h.2 + tot (fun h => h.2) t) = p * h.2 + p * tot (fun h => h.2) t := Int.mul_add _ _ _
    rw [tot_cons, tot_cons]
    show _ ≤ h.2 * chip h.1 p + hpot t p
    omega
theorem gave_right {hs : List I2} (h0 : ∀ h ∈ hs, 0 ≤ h.2) {p : Int} (h : ∀ s ∈ stretches hs, s.2 ≤ p) : gaveI hs p = 0 := by
  have h1 := gave_nonneg h0 p
  have h2 := hpot_least h0 p
  have h3 := spot_right (l := stretches hs) (p := p) fun s m => ⟨(stretches_ok h0).1.le s m, h s m⟩
  rw [mass_ok h0, mom_ok h0] at h3
  have e : 2 * p * tot (fun h => h.2) hs = 2 * (p * tot (fun h => h.2) hs) := Int.mul_assoc _ _ _
  unfold gaveI at *
  omega
theorem NF.lo {s : I2} {l : List I2} (h : NF (s :: l)) : ∀ x ∈ s :: l, s.1 ≤ x.1 := fun x m => by
  have h1 := h.le s List.mem_cons_self
  rcases List.mem_cons.mp m with e | m
  · rw [e]; exact Int.le_refl _
  · have := (List.pairwise_cons.mp h.gap).1 x m
    omega
theorem NF.hi {s : I2} {l : List I2} (h : NF (l ++ [s])) : ∀ x ∈ l ++ [s], x.2 ≤ s.2 := fun x m => by
  have h1 := h.le s (by simp)
  rcases List.mem_append.mp m with m | m
  · have := (List.pairwise_append.mp h.gap).2.2 x m s (by simp)
    omega
  · rw [List.mem_singleton.mp m]; exact Int.le_refl _
/-! ### squares -/
def sqs (m : Int) : Int := m * (m + 1) * (2 * m + 1) / 6
def u3 (m : Int) : Int := (m - 1) * m * (m + 1) / 6
theorem six (m : Int) : (m - 1) * m * (m + 1) % 6 = 0 := by
  obtain ⟨k, r, hm, hr⟩ : ∃ k r : Int, m = 6 * k + r ∧ (r = 0 ∨ r = 1 ∨ r = 2 ∨ r = 3 ∨ r = 4 ∨ r = 5) := ⟨m / 6, m % 6, by omega, by omega⟩
  have e : (m - 1) * m * (m + 1) = 6 * (36 * k * k * k + 18 * k * k * r + 3 * k * r * r - k) + (r - 1) * r * (r + 1) := by
    subst hm
    grind
  rw [e, Int.add_comm, Int.add_mul_emod_self_left]
  rcases hr with rfl | rfl | rfl | rfl | rfl | rfl <;> decide
theorem sqs_is (m : Int) : sqs m = tri m + 2 * u3 m := by
  have h1 := six m
  have h2 := tri_two m
  have h3 : 6 * u3 m = (m - 1) * m * (m + 1) := by unfold u3; omega
  have e : m * (m + 1) * (2 * m + 1) = 3 * (m * (m + 1)) + 2 * ((m - 1) * m * (m + 1)) := by grind
  unfold sqs
  rw [e]
  omega
theorem sqs_six (m : Int) : 6 * sqs m = m * (m + 1) * (2 * m + 1) := by
  rw [sqs_is]
  have h2 := tri_two m
  have h1 := six m
  have h3 : 6 * u3 m = (m - 1) * m * (m + 1) := by unfold u3; omega
  have e : m * (m + 1) * (2 * m + 1) = 3 * (m * (m + 1)) + 2 * ((m - 1) * m * (m + 1)) := by grind
  omega
def sqS (s : I2) : Int := sqs s.2 - sqs (s.1 - 1)
theorem lawSq_is (f l : Int) : (l - f + 1) * f * f + f * (l - f + 1) * (l - f + 1 - 1) + (l - f + 1 - 1) * (l - f + 1) * (2 * (l - f + 1) - 1) / 6 = sqS (f, l) := by
  have e1 : (l - f + 1 - 1) * (l - f + 1) * (2 * (l - f + 1) - 1) / 6 = sqs (l - f) := by
    unfold sqs
    have : (l - f + 1 - 1) * (l - f + 1) * (2 * (l - f + 1) - 1) = (l - f) * (l - f + 1) * (2 * (l - f) + 1) := by grind
    rw [this]
  rw [e1]
  unfold sqS
  have a1 := sqs_six (l - f)
  have a2 := sqs_six l
  have a3 := sqs_six (f - 1)
  have : 6 * ((l - f + 1) * f * f + f * (l - f + 1) * (l - f + 1 - 1)) + (l - f) * (l - f + 1) * (2 * (l - f) + 1) = l * (l + 1) * (2 * l + 1) - (f - 1) * (f - 1 + 1) * (2 * (f - 1) + 1) := by grind
  show _ = sqs l - sqs (f - 1)
  omega
def sqH (h : I2) : Int := h.1 * h.1 * h.2
/-- how often all give, twice -/
def twice (hs : List I2) : Int := tot sqS (stretches hs) - tot sqH hs
theorem tot_add (f g : I2 → Int) (l : List I2) : tot (fun x => f x + 2 * g x) l = tot f l + 2 * tot g l := by
  induction l with
  | nil => rfl
  | cons x l ih => rw [tot_cons, tot_cons, tot_cons, ih]; omega
theorem twice_even {hs : List I2} (h0 : ∀ h ∈ hs, 0 ≤ h.2) : ∃ k, twice hs = 2 * k := by
  have e1 : tot sqS (stretches hs) = tot (fun s => tri s.2 - tri (s.1 - 1)) (stretches hs) + 2 * tot (fun s => u3 s.2 - u3 (s.1 - 1)) (stretches hs) := by
    rw [← tot_add]
    refine tot_congr fun x _ => ?_
    unfold sqS
    rw [sqs_is, sqs_is]
    omega
  have e2 : 2 * tot (fun s => tri s.2 - tri (s.1 - 1)) (stretches hs) = tot (fun s => (s.1 + s.2) * (s.2 - s.1 + 1)) (stretches hs) := by
    have : ∀ l : List I2, 2 * tot (fun s => tri s.2 - tri (s.1 - 1)) l = tot (fun s => (s.1 + s.2) * (s.2 - s.1 + 1)) l := by
      intro l
      induction l with
      | nil => rfl
      | cons s l ih =>
        rw [tot_cons, tot_cons, Int.mul_add, ih]
        have t1 := tri_two s.2
        have t2 := tri_two (s.1 - 1)
        have : (s.1 + s.2) * (s.2 - s.1 + 1) = s.2 * (s.2 + 1) - (s.1 - 1) * (s.1 - 1 + 1) := by grind
        omega
    exact this _
  have e3 : tot sqH hs = tot (fun h => h.1 * h.2) hs + 2 * tot (fun h => tri (h.1 - 1) * h.2) hs := by
    rw [← tot_add]
    refine tot_congr fun x _ => ?_
    unfold sqH
    have t := tri_two (x.1 - 1)
    have e : 2 * (tri (x.1 - 1) * x.2) = (2 * tri (x.1 - 1)) * x.2 := by rw [Int.mul_assoc]
    rw [e, t]
    grind
  rw [mom_ok h0] at e2
  unfold twice
  rw [e1, e3]
  exact ⟨tot (fun s => u3 s.2 - u3 (s.1 - 1)) (stretches hs) - tot (fun h => tri (h.1 - 1) * h.2) hs, by omega⟩
def allI (hs : List I2) : Int := twice hs / 2
theorem all_two {hs : List I2} (h0 : ∀ h ∈ hs, 0 ≤ h.2) : 2 * allI hs = twice hs := by
  obtain ⟨k, hk⟩ := twice_even h0
  unfold allI
  omega
end Spr
/-! the text by places -/
namespace Wk
open PySem PySem.Spec PyProof.Rows L2
def topS (i : Nat) : Stmt := PySem.Challenge.pw_spreadrow_k07_refused.main.body.getD i (.Pass ⟨0, 0, 0, 0⟩)
abbrev st_law : Stmt := topS 39
theorem sc_law : FnScope ["_law_script", "_law_far", "_law_heaps_here", "_law_kept", "_law_many", "_law_bad", "_law_at", "_law_strange", "_law_great"] ["_law_script"] (defScope st_law) := ⟨rfl, rfl, rfl, by decide +kernel, rfl, by decide +kernel, by decide +kernel⟩
abbrev st__law_heaps : Stmt := topS 29
theorem sc__law_heaps : FnScope ["_law_script", "_law_found", "_law_k", "_law_most", "_law_wide"] ["_law_script"] (defScope st__law_heaps) := ⟨rfl, rfl, rfl, by decide +kernel, rfl, by decide +kernel, by decide +kernel⟩
abbrev st__law_cell_at : Stmt := topS 27
theorem sc__law_cell_at : FnScope ["_law_script", "_law_k"] ["_law_script", "_law_k"] (defScope st__law_cell_at) := ⟨rfl, rfl, rfl, by decide +kernel, rfl, by decide +kernel, by decide +kernel⟩
abbrev st__law_all : Stmt := topS 38
theorem sc__law_all : FnScope ["_law_ask", "_law_doors", "_law_things", "_law_due", "_law_door", "_law_thing"] ["_law_ask", "_law_doors", "_law_things", "_law_due"] (defScope st__law_all) := ⟨rfl, rfl, rfl, by decide +kernel, rfl, by decide +kernel, by decide +kernel⟩
abbrev st__law_with_heaps : Stmt := topS 35
theorem sc__law_with_heaps : FnScope ["_law_door", "_law_heaps_here"] ["_law_door", "_law_heaps_here"] (defScope st__law_with_heaps) := ⟨rfl, rfl, rfl, by decide +kernel, rfl, by decide +kernel, by decide +kernel⟩
abbrev st__law_with_place : Stmt := topS 36
theorem sc__law_with_place : FnScope ["_law_door", "_law_place"] ["_law_door", "_law_place"] (defScope st__law_with_place) := ⟨rfl, rfl, rfl, by decide +kernel, rfl, by decide +kernel, by decide +kernel⟩
abbrev st__law_told : Stmt := topS 37
theorem sc__law_told : FnScope ["_law_ask", "_law_one", "_law_other", "error", "_law_found"] ["_law_ask", "_law_one", "_law_other"] (defScope st__law_told) := ⟨rfl, rfl, rfl, by decide +kernel, rfl, by decide +kernel, by decide +kernel⟩
abbrev st_written : Stmt := topS 25
theorem sc_written : FnScope ["heaps", "place", "count"] ["heaps"] (defScope st_written) := ⟨rfl, rfl, rfl, by decide +kernel, rfl, by decide +kernel, by decide +kernel⟩
abbrev st__law_draw : Stmt := topS 28
theorem sc__law_draw : FnScope ["_law_cell", "_law_k", "_law_many", "_law_primes"] ["_law_cell", "_law_k", "_law_many"] (defScope st__law_draw) := ⟨rfl, rfl, rfl, by decide +kernel, rfl, by decide +kernel, by decide +kernel⟩
abbrev st_all_gave : Stmt := topS 17
theorem sc_all_gave : FnScope ["heaps", "total", "first", "last", "place", "count"] ["heaps"] (defScope st_all_gave) := ⟨rfl, rfl, rfl, by decide +kernel, rfl, by decide +kernel, by decide +kernel⟩
abbrev st_spread : Stmt := topS 21
theorem sc_spread : FnScope ["heaps"] ["heaps"] (defScope st_spread) := ⟨rfl, rfl, rfl, by decide +kernel, rfl, by decide +kernel, by decide +kernel⟩
abbrev st_left : Stmt := topS 22
theorem sc_left : FnScope ["heaps", "place", "first", "last"] ["heaps", "place"] (defScope st_left) := ⟨rfl, rfl, rfl, by decide +kernel, rfl, by decide +kernel, by decide +kernel⟩
abbrev st_gave : Stmt := topS 16
theorem sc_gave : FnScope ["heaps", "place", "total", "first", "last", "end", "many", "start", "count"] ["heaps", "place"] (defScope st_gave) := ⟨rfl, rfl, rfl, by decide +kernel, rfl, by decide +kernel, by decide +kernel⟩
abbrev st_check_heaps : Stmt := topS 9
theorem sc_check_heaps : FnScope ["heaps", "heap"] ["heaps"] (defScope st_check_heaps) := ⟨rfl, rfl, rfl, by decide +kernel, rfl, by decide +kernel, by decide +kernel⟩
abbrev st_stretches_of : Stmt := topS 13
theorem sc_stretches_of : FnScope ["heaps", "found", "many", "balance", "first", "last", "empty", "parts", "begin", "end"] ["heaps"] (defScope st_stretches_of) := ⟨rfl, rfl, rfl, by decide +kernel, rfl, by decide +kernel, by decide +kernel⟩
abbrev st_squares_to : Stmt := topS 15
theorem sc_squares_to : FnScope ["place"] ["place"] (defScope st_squares_to) := ⟨rfl, rfl, rfl, by decide +kernel, rfl, by decide +kernel, by decide +kernel⟩
abbrev st_check_place : Stmt := topS 10
theorem sc_check_place : FnScope ["place"] ["place"] (defScope st_check_place) := ⟨rfl, rfl, rfl, by decide +kernel, rfl, by decide +kernel, by decide +kernel⟩
abbrev st_is_heap : Stmt := topS 8
theorem sc_is_heap : FnScope ["thing"] ["thing"] (defScope st_is_heap) := ⟨rfl, rfl, rfl, by decide +kernel, rfl, by decide +kernel, by decide +kernel⟩
abbrev st_clusters_of : Stmt := topS 12
theorem sc_clusters_of : FnScope ["heaps", "found", "place", "count", "many", "balance", "first", "last", "empty"] ["heaps"] (defScope st_clusters_of) := ⟨rfl, rfl, rfl, by decide +kernel, rfl, by decide +kernel, by decide +kernel⟩
abbrev st__wall : Stmt := topS 0
theorem sc__wall : FnScope ["k"] ["k"] (defScope st__wall) := ⟨rfl, rfl, rfl, by decide +kernel, rfl, by decide +kernel, by decide +kernel⟩
abbrev st_is_whole : Stmt := topS 7
theorem sc_is_whole : FnScope ["thing"] ["thing"] (defScope st_is_whole) := ⟨rfl, rfl, rfl, by decide +kernel, rfl, by decide +kernel, by decide +kernel⟩
abbrev st_ends_of : Stmt := topS 11
theorem sc_ends_of : FnScope ["many", "balance", "begin", "rest", "first"] ["many", "balance"] (defScope st_ends_of) := ⟨rfl, rfl, rfl, by decide +kernel, rfl, by decide +kernel, by decide +kernel⟩
abbrev st_Spread_init : Stmt := inClass (topS 19) 0
theorem sc_Spread_init : FnScope ["self", "stretches"] ["self", "stretches"] (defScope st_Spread_init) := ⟨rfl, rfl, rfl, by decide +kernel, rfl, by decide +kernel, by decide +kernel⟩
abbrev st_Spread_shows : Stmt := inClass (topS 19) 1
theorem sc_Spread_shows : FnScope ["self", "heaps"] ["self", "heaps"] (defScope st_Spread_shows) := ⟨rfl, rfl, rfl, by decide +kernel, rfl, by decide +kernel, by decide +kernel⟩
theorem kit_self {K : PySem.W.Frag} {C : Addr} : PySem.W.kitOne K (.ref C) (.ref C) = some true := by
  unfold PySem.W.kitOne
  rw [if_pos (by simp)]
/-- a def of the top, under its name -/
structure DefAt (K : PySem.W.Frag) (mg : Str → Option Value) (x : Str) (st : Stmt) (ps : List Str) : Prop where
  ex : ∃ (f : Addr) (fd : FuncData), L2.Fun K x x st f fd ∧ mg x = some (.ref f) ∧ Binds K fd ps []
/-- a method of the class at C -/
structure MethAt (K : PySem.W.Frag) (C : Addr) (m qual : Str) (st : Stmt) (ps : List Str) : Prop where
  ex : ∃ (f : Addr) (fd : FuncData), L2.Fun K m qual st f fd ∧ Meth K C m f ∧ Binds K fd ps []
/-- a class that is called: its __init__ -/
structure InitAt (K : PySem.W.Frag) (C : Addr) (qual : Str) (st : Stmt) (ps : List Str) : Prop where
  ex : ∃ (f : Addr) (fd : FuncData), L2.Fun K "__init__" qual st f fd ∧ Mk K C f ∧ Binds K fd ps []
/-- an own exception class without an __init__ -/
structure ExcAt (K : PySem.W.Frag) (mg : Str → Option Value) (x : Str) (C : Addr) : Prop where
  gP : mg x = some (.ref C)
  bP : PySem.W.subIn K (.ref C) (.type "BaseException") = some true
  tP : PySem.W.typeIn K (.ref C) = some (.type "type")
  kP : PySem.W.keepIn K (.ref C) = true
  iP : PySem.W.isClsIn K C = true
  dP : PySem.W.hasDictIn K C = true
  vP : PySem.W.subIn K (.ref C) (.type "ValueError") = some true
  xP : PySem.W.excIn K C [.type "ValueError", .type "Exception", .type "BaseException", .type "object"] "ValueError.__new__" = true
  hg : PySem.W.findIn K (.ref C) "__getattribute__" = some (some (.builtin "BaseException.__getattribute__"))
  hk : PySem.W.findIn K (.ref C) "__getattr__" = some none
  ha : PySem.W.findIn K (.ref C) "__class__" = some (some (.builtin "object.__class__"))
  hm : PySem.W.mroIn K C (.type "object") = some true
/-- what the top has left -/
structure Top (K : PySem.W.Frag) (mg : Str → Option Value) : Prop where
  d__law_heaps : DefAt K mg "_law_heaps" st__law_heaps ["_law_script"]
  d__law_cell_at : DefAt K mg "_law_cell_at" st__law_cell_at ["_law_script", "_law_k"]
  d__law_all : DefAt K mg "_law_all" st__law_all ["_law_ask", "_law_doors", "_law_things", "_law_due"]
  d__law_with_heaps : DefAt K mg "_law_with_heaps" st__law_with_heaps ["_law_door", "_law_heaps_here"]
  d__law_with_place : DefAt K mg "_law_with_place" st__law_with_place ["_law_door", "_law_place"]
  d__law_told : DefAt K mg "_law_told" st__law_told ["_law_ask", "_law_one", "_law_other"]
  d_written : DefAt K mg "written" st_written ["heaps"]
  d__law_draw : DefAt K mg "_law_draw" st__law_draw ["_law_cell", "_law_k", "_law_many"]
  d_all_gave : DefAt K mg "all_gave" st_all_gave ["heaps"]
  d_spread : DefAt K mg "spread" st_spread ["heaps"]
  d_left : DefAt K mg "left" st_left ["heaps", "place"]
  d_gave : DefAt K mg "gave" st_gave ["heaps", "place"]
  d_check_heaps : DefAt K mg "check_heaps" st_check_heaps ["heaps"]
  d_stretches_of : DefAt K mg "stretches_of" st_stretches_of ["heaps"]
  d_squares_to : DefAt K mg "squares_to" st_squares_to ["place"]
  d_check_place : DefAt K mg "check_place" st_check_place ["place"]
  d_is_heap : DefAt K mg "is_heap" st_is_heap ["thing"]
  d_clusters_of : DefAt K mg "clusters_of" st_clusters_of ["heaps"]
  d__wall : DefAt K mg "_wall" st__wall ["k"]
  d_is_whole : DefAt K mg "is_whole" st_is_whole ["thing"]
  d_ends_of : DefAt K mg "ends_of" st_ends_of ["many", "balance"]
  m_range : mg "range" = none
  m_list : mg "list" = none
  m_len : mg "len" = none
  m_all : mg "all" = none
  m_isinstance : mg "isinstance" = none
  m_ValueError : mg "ValueError" = none
  m_str : mg "str" = none
  m_abs : mg "abs" = none
  m_min : mg "min" = none
  m_tuple : mg "tuple" = none
  m_sorted : mg "sorted" = none
  m_int : mg "int" = none
  m_bool : mg "bool" = none
  m_divmod : mg "divmod" = none
structure Top_Spread (K : PySem.W.Frag) (mg : Str → Option Value) (C_Spread : Addr) : Prop where
  g_Spread : mg "Spread" = some (.ref C_Spread)
  cl_Spread : Cls K C_Spread
  na_Spread_stretches : NoAttr K C_Spread "stretches"
  i_Spread : InitAt K C_Spread "Spread.__init__" st_Spread_init ["self", "stretches"]
  e_Spread_shows : MethAt K C_Spread "shows" "Spread.shows" st_Spread_shows ["self", "heaps"]
structure TopX (K : PySem.W.Frag) (mg : Str → Option Value) (C_HeapError : Addr) (C_BadHeaps : Addr) (C_BadPlace : Addr) (C_BadText : Addr) : Prop where
  x_HeapError : ExcAt K mg "HeapError" C_HeapError
  x_BadHeaps : ExcAt K mg "BadHeaps" C_BadHeaps
  x_BadPlace : ExcAt K mg "BadPlace" C_BadPlace
  x_BadText : ExcAt K mg "BadText" C_BadText
  s_HeapError_HeapError : PySem.W.subIn K (.ref C_HeapError) (.ref C_HeapError) = some true
  s_HeapError_BadHeaps : PySem.W.subIn K (.ref C_HeapError) (.ref C_BadHeaps) = some false
  s_HeapError_BadPlace : PySem.W.subIn K (.ref C_HeapError) (.ref C_BadPlace) = some false
  s_HeapError_BadText : PySem.W.subIn K (.ref C_HeapError) (.ref C_BadText) = some false
  s_BadHeaps_HeapError : PySem.W.subIn K (.ref C_BadHeaps) (.ref C_HeapError) = some true
  s_BadHeaps_BadHeaps : PySem.W.subIn K (.ref C_BadHeaps) (.ref C_BadHeaps) = some true
  s_BadHeaps_BadPlace : PySem.W.subIn K (.ref C_BadHeaps) (.ref C_BadPlace) = some false
  s_BadHeaps_BadText : PySem.W.subIn K (.ref C_BadHeaps) (.ref C_BadText) = some false
  s_BadPlace_HeapError : PySem.W.subIn K (.ref C_BadPlace) (.ref C_HeapError) = some true
  s_BadPlace_BadHeaps : PySem.W.subIn K (.ref C_BadPlace) (.ref C_BadHeaps) = some false
  s_BadPlace_BadPlace : PySem.W.subIn K (.ref C_BadPlace) (.ref C_BadPlace) = some true
  s_BadPlace_BadText : PySem.W.subIn K (.ref C_BadPlace) (.ref C_BadText) = some false
  s_BadText_HeapError : PySem.W.subIn K (.ref C_BadText) (.ref C_HeapError) = some true
  s_BadText_BadHeaps : PySem.W.subIn K (.ref C_BadText) (.ref C_BadHeaps) = some false
  s_BadText_BadPlace : PySem.W.subIn K (.ref C_BadText) (.ref C_BadPlace) = some false
  s_BadText_BadText : PySem.W.subIn K (.ref C_BadText) (.ref C_BadText) = some true
  sN : PySem.W.specialIn K (.builtin "object.__class__") "__get__" = some (some (.builtin "getset_descriptor.__get__"))
  sT : PySem.W.takesIn K (.builtin "object.__class__") = some true
  k_MOST : ∃ t, mg "MOST" = some (.int 1000000000000000000000000000000000000000000000000000000000000 t)
end Wk
/-! the walk, part A: data in the heap; is_whole, is_heap, check_heaps, ends_of -/
namespace Wk
open PySem PySem.Spec PyProof.Rows L2 Spr
/-! ### data -/
/-- all tuples stand -/
def Tp (H H' : Hp) : Prop := ∀ b xs, H b = some (.tup xs) → H' b = some (.tup xs)
theorem Tp.refl (H : Hp) : Tp H H := fun _ _ h => h
theorem Tp.trans {H H1 H2 : Hp} (a : Tp H H1) (b : Tp H1 H2) : Tp H H2 := fun c xs h => b c xs (a c xs h)
theorem same_tp {H H' : Hp} (s : Same H H') : Tp H H' := fun b xs h => s b _ h
theorem same_new {H : Hp} {p : Addr} {o : HO} (h : H p = none) : Same H (upd H p o) := fun b x e => by
  rw [upd_ne (ne_of_none e h)]
  exact e
/-- a thing that H did not know may change -/
theorem same_mut {H H' : Hp} {p : Addr} {o : HO} (s : Same H H') (h : H p = none) : Same H (upd H' p o) := fun b x e => by
  rw [upd_ne (ne_of_none e h)]
  exact s b x e
theorem tp_new {H : Hp} {p : Addr} {o : HO} (h : H p = none) : Tp H (upd H p o) := same_tp (same_new h)
theorem tp_mut {H : Hp} {p : Addr} {o : HO} {xs : List V} (h : H p = some (.lst xs)) : Tp H (upd H p o) := fun b ys e => by
  rw [upd_ne (ne_of e h (fun z => nomatch z))]
  exact e
/-- a pair of ints -/
def PT (H : Hp) (v : V) (h : I2) : Prop := ∃ t, v = .ref t ∧ H t = some (.tup [.int h.1, .int h.2])
theorem PT.mono {H H' : Hp} (s : Tp H H') {v : V} {h : I2} (p : PT H v h) : PT H' v h := by
  obtain ⟨t, e, q⟩ := p
  exact ⟨t, e, s _ _ q⟩
abbrev PTs (H : Hp) (xs : List V) (hs : List I2) : Prop := Paired (PT H) xs hs
theorem PTs.mono {H H' : Hp} (s : Tp H H') {xs : List V} {hs : List I2} (p : PTs H xs hs) : PTs H' xs hs := Paired.mapP p fun _ _ q => q.mono s
section
variable {α β : Type} {R : α → β → Prop}
theorem pr_len {xs : List α} {ys : List β} (p : Paired R xs ys) : xs.length = ys.length := Paired.length p
theorem pr_get : ∀ {xs : List α} {ys : List β} {i : Nat} {x : α}, Paired R xs ys → xs[i]? = some x → ∃ y, ys[i]? = some y ∧ R x y
  | _, _, _, _, .nil, e => by simp at e
  | _, _, 0, _, .cons r _, e => by simp at e; subst e; exact ⟨_, rfl, r⟩
  | _, _, i + 1, x, .cons _ t, e => by
    obtain ⟨u, h1, h2⟩ := pr_get (i := i) (x := x) t (by simpa using e)
    exact ⟨u, by simpa using h1, h2⟩
theorem pr_get2 : ∀ {xs : List α} {ys : List β} {i : Nat} {y : β}, Paired R xs ys → ys[i]? = some y → ∃ x, xs[i]? = some x ∧ R x y
  | _, _, _, _, .nil, e => by simp at e
  | _, _, 0, _, .cons r _, e => by simp at e; subst e; exact ⟨_, rfl, r⟩
  | _, _, i + 1, y, .cons _ t, e => by
    obtain ⟨u, h1, h2⟩ := pr_get2 (i := i) (y := y) t (by simpa using e)
    exact ⟨u, by simpa using h1, h2⟩
theorem pr_app : ∀ {xs xs' : List α} {ys ys' : List β}, Paired R xs ys → Paired R xs' ys' → Paired R (xs ++ xs') (ys ++ ys')
  | _, _, _, _, .nil, q => q
  | _, _, _, _, .cons r p, q => .cons r (pr_app p q)
theorem pr_take : ∀ {xs : List α} {ys : List β} (n : Nat), Paired R xs ys → Paired R (xs.take n) (ys.take n)
  | _, _, 0, _ => .nil
  | _, _, _ + 1, .nil => .nil
  | _, _, n + 1, .cons r t => .cons r (pr_take n t)
theorem pr_drop : ∀ {xs : List α} {ys : List β} (n : Nat), Paired R xs ys → Paired R (xs.drop n) (ys.drop n)
  | _, _, 0, r => r
  | _, _, _ + 1, .nil => .nil
  | _, _, n + 1, .cons _ t => pr_drop n t
theorem pr_rev : ∀ {xs : List α} {ys : List β}, Paired R xs ys → Paired R xs.reverse ys.reverse
  | _, _, .nil => .nil
  | _, _, .cons r t => by
    rw [List.reverse_cons, List.reverse_cons]
    exact pr_app (pr_rev t) (.cons r .nil)
theorem pr_mem : ∀ {xs : List α} {ys : List β} {x : α}, Paired R xs ys → x ∈ xs → ∃ y ∈ ys, R x y
  | _, _, _, .nil, m => nomatch m
  | _, _, x, .cons r t, m => by
    rcases List.mem_cons.mp m with e | m
    · subst e; exact ⟨_, List.mem_cons_self, r⟩
    · obtain ⟨y, my, q⟩ := pr_mem t m
      exact ⟨y, List.mem_cons_of_mem _ my, q⟩
theorem pr_snoc {xs : List α} {ys : List β} {x : α} {y : β} (p : Paired R xs ys) (r : R x y) : Paired R (xs ++ [x]) (ys ++ [y]) := pr_app p (.cons r .nil)
theorem pr_split : ∀ {xs : List α} {ys : List β} {y : β}, Paired R xs (ys ++ [y]) → ∃ xs' x, xs = xs' ++ [x] ∧ Paired R xs' ys ∧ R x y
  | _, [], _, .cons r .nil => ⟨[], _, rfl, .nil, r⟩
  | _, z :: ys, y, .cons r t => by
    obtain ⟨xs', x, e, p, q⟩ := pr_split (ys := ys) t
    subst e
    exact ⟨_ :: xs', x, rfl, .cons r p, q⟩
end
/-- a list of pairs of ints, its own or handed in -/
def PL (H : Hp) (a : Addr) (hs : List I2) : Prop := ∃ xs, H a = some (.lst xs) ∧ PTs H xs hs
theorem PL.mono {H H' : Hp} (s : Same H H') {a : Addr} {hs : List I2} (p : PL H a hs) : PL H' a hs := by
  obtain ⟨xs, e, q⟩ := p
  exact ⟨xs, s _ _ e, q.mono (same_tp s)⟩
/-- heaps in reach: counts 0 or more, nothing beyond 2 ^ 200, a thousand at most -/
structure HB (hs : List I2) : Prop where
  len : hs.length ≤ 1000
  pos : ∀ h ∈ hs, 0 ≤ h.2
  w1 : ∀ h ∈ hs, h.1.natAbs < 2 ^ 200
  w2 : ∀ h ∈ hs, h.2.natAbs < 2 ^ 200
/-! ### great numbers -/
def Wd (k : Nat) (i : Int) : Prop := i.natAbs < 2 ^ k
theorem Wd.mono {a b : Nat} {i : Int} (h : Wd a i) (e : a ≤ b) : Wd b i := Nat.lt_of_lt_of_le h (Nat.pow_le_pow_right (by decide) e)
theorem Wd.mul {a b : Nat} {i j : Int} (h : Wd a i) (g : Wd b j) : Wd (a + b) (i * j) := wide_lt h g
theorem Wd.add {a b : Nat} {i j : Int} (h : Wd a i) (g : Wd b j) : Wd (a + b + 1) (i + j) := by
  have h1 : i.natAbs < 2 ^ a := h
  have h2 : j.natAbs < 2 ^ b := g
  have e1 : 2 ^ a ≤ 2 ^ (a + b) := Nat.pow_le_pow_right (by decide) (by omega)
  have e2 : 2 ^ b ≤ 2 ^ (a + b) := Nat.pow_le_pow_right (by decide) (by omega)
  show (i + j).natAbs < 2 ^ (a + b + 1)
  rw [Nat.pow_succ]
  omega
theorem Wd.neg {a : Nat} {i : Int} (h : Wd a i) : Wd a (-i) := by
  show (-i).natAbs < 2 ^ a
  rw [Int.natAbs_neg]
  exact h
theorem Wd.sub {a b : Nat} {i j : Int} (h : Wd a i) (g : Wd b j) : Wd (a + b + 1) (i - j) := by
  rw [Int.sub_eq_add_neg]
  exact h.add g.neg
theorem Wd.div {a : Nat} {i : Int} (h : Wd a i) (j : Int) : Wd a (i / j) := by
  have h1 : i.natAbs < 2 ^ a := h
  show (i / j).natAbs < 2 ^ a
  exact Nat.lt_of_le_of_lt (Int.natAbs_ediv_le_natAbs _ _) h1
theorem Wd.cmul {a b : Nat} {i j : Int} (h : Wd a i) (g : Wd b j) (h0 : 0 < a := by decide) (h1 : 0 < b := by decide) (e : a + b ≤ 1000000 := by decide) : CMulW i j := wide_mul h g h0 h1 e
/-! ### a def by its body -/
section
variable {P : Program} {w : World} {K : PySem.W.Frag} {mg : Str → Option Value} {base : Heap}
theorem DefAt.cal {x : Str} {st : Stmt} {N ps : List Str} {k : Nat} {sp : Sp} (D : DefAt K mg x st ps) (S : FnScope N ps (defScope st)) (len : ∀ vs H Q E, sp vs H Q E → vs.length = ps.length)
    (hbody : ∀ (f : Addr) (cdv : Value) (A : Around) (outer : List Env) (s : Shared) (H : Hp) (vs : List V) (Q : VK) (E : XK), Room k (A.deeper (envOfC x (defScope st) s.heap.objs.size f cdv)) → sp vs H Q E →
      ∃ t, PSs (cxOf CX0 P w K mg base N x (defScope st) f cdv A outer s H E).nox (defBody st) t ∧ t { nx := fun _ H' => Q .non H', rt := Q } (start N vs) H) : C8.Cal P w K mg base (k + 1) x sp [] := by
  obtain ⟨f, fd, F, hm, b⟩ := D.ex
  exact ⟨f, fd, ps, [], F.ok S len (fun cdv A outer s H vs Q E hr h => hbody f cdv A outer s H vs Q E hr h), hm, F.kp, b, .nil⟩
/-! ### is_whole -/
def isi (a b : String) : Bool := (kitB a b).getD false
def spWhole (K : PySem.W.Frag) : Sp := fun vs H Q _ => ∃ x n, vs = [x] ∧ TyX K H x (.type n) ∧ n ∈ ["NoneType", "bool", "int", "str", "list", "tuple", "dict"] ∧ Q (.bl (n == "int")) H
theorem cal_is_whole (T : Top K mg) : C8.Cal P w K mg base 1 "is_whole" (spWhole K) [] := by
  refine T.d_is_whole.cal sc_is_whole (fun vs H Q E h => ?_) (fun f cdv A outer s H vs Q E hr h => ?_)
  · obtain ⟨x, n, rfl, _⟩ := h
    rfl
  · obtain ⟨x, n, rfl, ty, hn, q⟩ := h
    refine ⟨_, (pss_one (ps_ret (pe_and (pe_callB call_isi (by rfl) T.m_isinstance (by decide +kernel) (pa_cons (pv 0) (pa_cons (pe_bltn (v := .ty "int") (by rfl) T.m_int (by decide +kernel) rfl) pa_nil))) (pe_one (pe_not (pe_callB call_isi (by rfl) T.m_isinstance (by decide +kernel) (pa_cons (pv 0) (pa_cons (pe_bltn (v := .ty "bool") (by rfl) T.m_bool (by decide +kernel) rfl) pa_nil)))))))), ?_⟩
    obtain ⟨b, c, hb, hc, e⟩ : ∃ b c : Bool, kitB n "int" = some b ∧ kitB n "bool" = some c ∧ (b && !c) = (n == "int") := by
      simp only [List.mem_cons, List.not_mem_nil, or_false] at hn
      rcases hn with rfl | rfl | rfl | rfl | rfl | rfl | rfl
      · exact ⟨false, false, by decide +kernel⟩
      · exact ⟨true, true, by decide +kernel⟩
      · exact ⟨true, false, by decide +kernel⟩
      · exact ⟨false, false, by decide +kernel⟩
      · exact ⟨false, false, by decide +kernel⟩
      · exact ⟨false, false, by decide +kernel⟩
      · exact ⟨false, false, by decide +kernel⟩
    refine ⟨x, rfl, x, .ty "int", .type n, .type "int", b, rfl, .ty "int", ty, kit_ty hb, b, rfl, ?_⟩
    cases b with
    | false =>
      refine iteF ?_
      rw [← e] at q
      exact q
    | true =>
      refine iteT ?_
      refine ⟨x, rfl, x, .ty "bool", .type n, .type "bool", c, rfl, .ty "bool", ty, kit_ty hc, c, rfl, ?_⟩
      rw [← e] at q
      exact q
/-! ### is_heap -/
def isHeapD : PyData → Bool
  | .tuple [.int _, .int c] => decide (0 ≤ c)
  | _ => false
def tyD : PyData → String
  | .none => "NoneType"
  | .bool _ => "bool"
  | .int _ => "int"
  | .str _ => "str"
  | .list _ => "list"
  | .tuple _ => "tuple"
  | .dict _ => "dict"
theorem tyD_mem (d : PyData) : tyD d ∈ ["NoneType", "bool", "int", "str", "list", "tuple", "dict"] := by cases d <;> simp [tyD]
theorem dp_ty {H : Hp} {v : V} {d : PyData} (h : Dp K H v d) : TyX K H v (.type (tyD d)) := by
  cases h with
  | non => exact .base .non
  | bl b => exact .base (.bl b)
  | int i => exact .base (.int i)
  | str x => exact .base (.str x)
  | lst hs _ =>
    rcases hs with (h | ⟨o, h⟩) | ⟨o, its, n, h1, h2, _⟩
    · exact .base (.lst h)
    · exact .base (.frz h)
    · exact .kList h1 h2
  | tup hs _ =>
    rcases hs with (h | ⟨o, h⟩) | ⟨o, its, n, h1, h2, _⟩
    · exact .base (.tup h)
    · exact .fTuple h
    · exact .kTuple h1 h2
theorem dp_len {H : Hp} : ∀ {xs : List V} {ds : List PyData}, DpAll K H xs ds → xs.length = ds.length
  | _, _, .nil => rfl
  | _, _, .cons _ t => congrArg (· + 1) (dp_len t)
def spHeap (K : PySem.W.Frag) : Sp := fun vs H Q _ => ∃ v d, vs = [v] ∧ Dp K H v d ∧ Q (.bl (isHeapD d)) H
theorem cal_is_heap (T : Top K mg) : C8.Cal P w K mg base 2 "is_heap" (spHeap K) [] := by
  have c_is_whole : C8.Cal P w K mg base 1 "is_whole" (spWhole K) [] := cal_is_whole T
  refine T.d_is_heap.cal sc_is_heap (fun vs H Q E h => ?_) (fun f cdv A outer s H vs Q E hr h => ?_)
  · obtain ⟨v, d, rfl, _⟩ := h
    rfl
  · obtain ⟨v, d, rfl, dp, q⟩ := h
    refine ⟨_, (pss_cons (ps_if (PW.pt (pw_or (pt_not (pt_val (pe_callB call_isi (by rfl) T.m_isinstance (by decide +kernel) (pa_cons (pv 0) (pa_cons (pe_bltn (v := .ty "tuple") (by rfl) T.m_tuple (by decide +kernel) rfl) pa_nil))))) (pw_or (pt_cmpR op_ne (pe_callB call_len_seq (by rfl) T.m_len (by decide +kernel) (pa_cons (pv 0) pa_nil)) pe_int (nomark _)) (pw_or (pt_not (pt_val (C8.pe_c c_is_whole hr (by decide) (by rfl) (pa_cons (pe_ix ix_tup (pv 0) pe_int (fun _ _ => rfl)) pa_nil)))) (pw_or1 (pt_not (pt_val (C8.pe_c c_is_whole hr (by decide) (by rfl) (pa_cons (pe_ix ix_tup (pv 0) pe_int (fun _ _ => rfl)) pa_nil)))))))))
 (pss_one (ps_ret pe_bl))
 pss_nil)
 (pss_one (ps_ret (pe_cmpR op_ge (pe_ix ix_tup (pv 0) pe_int (fun _ _ => rfl)) pe_int (nomark _))))), ?_⟩
    have ty := dp_ty dp
    by_cases ht : ∃ ds, d = .tuple ds
    · obtain ⟨ds, rfl⟩ := ht
      cases dp with
      | @tup a xs _ hT hx =>
      refine ⟨_, rfl, _, .ty "tuple", .type "tuple", .type "tuple", true, rfl, .ty "tuple", ty, kit_ty (by decide +kernel), true, rfl, iteF ?_⟩
      refine ⟨_, rfl, a, xs, rfl, .inr hT, rfl, _, rfl, ?_⟩
      by_cases h2 : (V.int (xs.length : Int)) = V.int 2
      · have h3 : xs.length = 2 := by
          injection h2 with h2
          omega
        rw [decide_eq_true h2]
        refine iteF ?_
        obtain ⟨x0, x1, rfl⟩ : ∃ x0 x1, xs = [x0, x1] := by
          match xs, h3 with
          | [x0, x1], _ => exact ⟨x0, x1, rfl⟩
        cases hx with
        | cons d0 r0 =>
        cases r0 with
        | cons d1 r1 =>
        cases r1
        rename_i e0 e1
        refine ⟨_, rfl, a, _, 0, x0, rfl, rfl, hT, atI_nat (j := 0) rfl, x0, _, rfl, dp_ty d0, tyD_mem _, _, rfl, ?_⟩
        cases d0 with
        | int i =>
          refine iteF ?_
          refine ⟨_, rfl, a, _, 1, x1, rfl, rfl, hT, atI_nat (j := 1) rfl, x1, _, rfl, dp_ty d1, tyD_mem _, _, rfl, ?_⟩
          cases d1 with
          | int j =>
            refine iteF ?_
            exact ⟨_, rfl, a, _, 1, _, rfl, rfl, hT, atI_nat (j := 1) rfl, j, 0, rfl, rfl, q⟩
          | non => exact iteT q
          | bl b => exact iteT q
          | str x => exact iteT q
          | lst _ _ => exact iteT q
          | tup _ _ => exact iteT q
        | non => exact iteT (iteT q)
        | bl b => exact iteT (iteT q)
        | str x => exact iteT (iteT q)
        | lst _ _ => exact iteT (iteT q)
        | tup _ _ => exact iteT (iteT q)
      · rw [decide_eq_false h2]
        refine iteT (iteT ?_)
        have e : isHeapD (.tuple ds) = false := by
          have hl := dp_len hx
          match ds, hl with
          | [], _ => rfl
          | [d0], _ => cases d0 <;> rfl
          | [_, _], hl => exact absurd (congrArg (fun n : Nat => V.int (n : Int)) hl) h2
          | d0 :: d1 :: d2 :: r, _ => cases d0 <;> first | rfl | (cases d1 <;> rfl)
        rw [e] at q
        exact q
    · have e : isHeapD d = false := by
        cases d with
        | tuple ds => exact absurd ⟨ds, rfl⟩ ht
        | _ => rfl
      have hb : kitB (tyD d) "tuple" = some false := by
        cases d with
        | tuple ds => exact absurd ⟨ds, rfl⟩ ht
        | none => decide +kernel
        | bool b => show kitB "bool" "tuple" = _; decide +kernel
        | int b => show kitB "int" "tuple" = _; decide +kernel
        | str b => show kitB "str" "tuple" = _; decide +kernel
        | list b => show kitB "list" "tuple" = _; decide +kernel
        | dict b => show kitB "dict" "tuple" = _; decide +kernel
      rw [e] at q
      exact ⟨_, rfl, _, .ty "tuple", .type (tyD d), .type "tuple", false, rfl, .ty "tuple", ty, kit_ty hb, false, rfl, iteT (iteT q)⟩
/-! ### check_heaps, of heaps -/
def pairD (h : I2) : PyData := .tuple [.int h.1, .int h.2]
theorem PTs.dp {H : Hp} : ∀ {xs : List V} {hs : List I2}, PTs H xs hs → DpAll K H xs (hs.map pairD)
  | _, _, .nil => .nil
  | _, _, .cons r t => by
    obtain ⟨a, rfl, e⟩ := r
    exact .cons (.tup (SqT.of e) (.cons (.int _) (.cons (.int _) .nil))) (PTs.dp t)
theorem PL.dp {H : Hp} {a : Addr} {hs : List I2} (p : PL H a hs) : Dp K H (.ref a) (.list (hs.map pairD)) := by
  obtain ⟨xs, e, q⟩ := p
  exact .lst (SqL.of e) q.dp
def spCheck (K : PySem.W.Frag) : Sp := fun vs H Q _ => ∃ v ds, vs = [v] ∧ Dp K H v (.list ds) ∧ ds.all isHeapD = true ∧ ds.length < 100000 ∧ ∀ H', Same H H' → Q .non H'
theorem dpAll_get {H : Hp} : ∀ {xs : List V} {ds : List PyData} {i : Nat} {x : V}, DpAll K H xs ds → xs[i]? = some x → ∃ d, ds[i]? = some d ∧ Dp K H x d
  | _, _, _, _, .nil, e => by simp at e
  | _, _, 0, _, .cons r _, e => by simp at e; subst e; exact ⟨_, rfl, r⟩
  | _, _, i + 1, x, .cons _ t, e => by
    obtain ⟨u, h1, h2⟩ := dpAll_get (i := i) (x := x) t (by simpa using e)
    exact ⟨u, by simpa using h1, h2⟩
theorem same_sqL {H H' : Hp} (s : Same H H') {a : Addr} {xs : List V} (h : SqL K H a xs) : SqL K H' a xs := s.seq h
theorem same_sqT {H H' : Hp} (s : Same H H') {a : Addr} {xs : List V} (h : SqT K H a xs) : SqT K H' a xs := by
  rcases h with (h | ⟨o, h⟩) | h
  · exact .inl (.inl (s _ _ h))
  · exact .inl (.inr ⟨o, s _ _ h⟩)
  · exact .inr h
mutual
theorem dp_mono {H H' : Hp} (s : Same H H') : ∀ {d : PyData} {v : V}, Dp K H v d → Dp K H' v d
  | _, _, .non => .non
  | _, _, .bl b => .bl b
  | _, _, .int i => .int i
  | _, _, .str x => .str x
  | _, _, .lst h t => .lst (same_sqL s h) (dpAll_mono s t)
  | _, _, .tup h t => .tup (same_sqT s h) (dpAll_mono s t)
theorem dpAll_mono {H H' : Hp} (s : Same H H') : ∀ {ds : List PyData} {vs : List V}, DpAll K H vs ds → DpAll K H' vs ds
  | _, _, .nil => .nil
  | _, _, .cons r t => .cons (dp_mono s r) (dpAll_mono s t)
end
theorem take_snoc {α : Type} {l : List α} {i : Nat} {x : α} (h : l[i]? = some x) : l.take (i + 1) = l.take i ++ [x] := by
  rw [List.take_add_one, h]
  rfl
theorem yesT {σ : L2.St} {H : Hp} {A B : Hp → Prop} (h : A H) : tYes σ H fun b H3 => if b = true then A H3 else B H3 := by
  show (if true = true then A H else B H)
  rw [if_pos rfl]
  exact h
theorem cal_check_heaps (T : Top K mg) : C8.Cal P w K mg base 3 "check_heaps" (spCheck K) [] := by
  have c_is_heap : C8.Cal P w K mg base 2 "is_heap" (spHeap K) [] := cal_is_heap T
  refine T.d_check_heaps.cal sc_check_heaps (fun vs H Q E h => ?_) (fun f cdv A outer s H vs Q E hr h => ?_)
  · obtain ⟨v, d, rfl, _⟩ := h
    rfl
  · obtain ⟨v, ds, rfl, dp, hall, hlen, q⟩ := h
    refine ⟨_, (pss_one (ps_if (PW.pt (pw_or (pt_not (pt_val (pe_callB call_isi (by rfl) T.m_isinstance (by decide +kernel) (pa_cons (pv 0) (pa_cons (pe_bltn (v := .ty "list") (by rfl) T.m_list (by decide +kernel) rfl) pa_nil))))) (pw_or1 (pt_not (pt_val (pe_callB (cr_all rfl) (by rfl) T.m_all (by decide +kernel) (pa_cons (pe_lc (own := [("heap", 1)]) (g := (gName 1)) rfl sc_check_heaps.nd (pi_list (pv 0)) (blkOk_by (own := [("heap", 1)]) (N := ["heaps", "heap"]) (sc := defScope st_check_heaps) (by decide +kernel)) (fun _ _ _ _ _ => (pg_name (i := 1) sc_check_heaps.nd rfl (Or.inl rfl))) (fun _ _ _ _ _ => pts_nil) (fun _ _ _ _ _ => (C8.pe_c c_is_heap hr (by decide) (by rfl) (pa_cons (pv 1) pa_nil)))) pa_nil)))))))
 (pss_one ps_never)
 pss_nil)), ?_⟩
    have ty := dp_ty dp
    cases dp with
    | @lst a xs _ hL hx =>
    have lx := dp_len hx
    refine ⟨_, rfl, _, .ty "list", .type "list", .type "list", true, rfl, .ty "list", ty, kit_ty (by decide +kernel), true, rfl, iteF ?_⟩
    -- [is_heap(heap) for heap in heaps]
    refine ⟨_, rfl, a, rfl, ⟨_, hL⟩, fun D nD => ?_⟩
    refine lc_list (K := K) (a := a) (xs := xs) (fun i H1 => Same H H1 ∧ H1 D = some (.lst (((ds.take i).map isHeapD).map V.bl))) ⟨same_new nD, by rw [upd_same]; rfl⟩ (fun i H1 _ p => p.1.seq hL) ?_ ?_
    · rintro i x H1 hi ⟨s1, e1⟩
      obtain ⟨d, hd, dx⟩ := dpAll_get hx hi
      have hil : i < ds.length := (List.getElem?_eq_some_iff.mp hd).1
      refine ⟨rfl, yesT ?_⟩
      refine ⟨x, rfl, x, d, rfl, dp_mono s1 dx, _, e1, ?_, same_mut s1 nD, ?_⟩
      · rw [List.length_map, List.length_map, List.length_take]
        exact Evl.sz_lt (by omega)
      · rw [upd_same, take_snoc hd, List.map_append, List.map_append]
        rfl
    · rintro H1 ⟨s1, e1⟩
      refine ⟨D, (ds.take xs.length).map isHeapD, rfl, SqL.of e1, _, rfl, ?_⟩
      rw [lx, List.take_length, List.all_map]
      have e : ds.all (id ∘ isHeapD) = true := hall
      rw [e]
      exact iteF (q H1 s1)
end
end Wk
/-! the walk, part B: ends_of, clusters_of, stretches_of -/
namespace Wk
open PySem PySem.Spec PyProof.Rows L2 Spr
section
variable {P : Program} {w : World} {K : PySem.W.Frag} {mg : Str → Option Value} {base : Heap}
def optV : Option Int → V
  | none => .non
  | some e => .int e
theorem wd1 : Wd 1 1 := by unfold Wd; decide
theorem divp_wd {i j : Int} {a : Nat} (hj : 0 < j) (h : Wd a i) (h0 : 0 < a) (ha : a ≤ 3000) : CDivP i j := by
  refine divp_ok hj ?_
  have x := PySem.Flt.log2_lt_of h0 h
  unfold Builtin.Int.intBits
  split <;> split <;> omega
def spEnds : Sp := fun vs H Q _ => ∃ n b : Int, vs = [.int n, .int b] ∧ 0 < n ∧ Wd 220 n ∧ Wd 460 b ∧
  ∀ H' p, Same H H' → H p = none → H' p = some (.tup [.int (firstOf (n, b)), .int (lastOf (n, b)), optV (emptyOf (n, b))]) → Q (.ref p) H'
theorem cal_ends_of (T : Top K mg) : C8.Cal P w K mg base 1 "ends_of" spEnds [] := by
  refine T.d_ends_of.cal sc_ends_of (fun vs H Q E h => ?_) (fun f cdv A outer s H vs Q E hr h => ?_)
  · obtain ⟨n, b, rfl, _⟩ := h
    rfl
  · obtain ⟨n, b, rfl, hn, wn, wb, q⟩ := h
    refine ⟨_, (pss_cons (ps_asg (pe_callB call_divmodW (by rfl) T.m_divmod (by decide +kernel) (pa_cons (pe_op op_sub (pv 1) (pe_op op_fdiv (pe_op op_mulW (pv 0) (pe_op op_add (pv 0) pe_int)) pe_int)) (pa_cons (pv 0) pa_nil))) (pg_tup rfl (pgs_cons (pg_name (i := 2) sc_ends_of.nd rfl (Or.inl rfl)) (pgs_cons (pg_name (i := 3) sc_ends_of.nd rfl (Or.inl rfl)) pgs_nil))))
 (pss_cons (ps_set (i := 4) sc_ends_of.nd rfl (Or.inl rfl) (pe_op op_add (pv 2) pe_int))
 (pss_cons (ps_if (pt_cmpR op_eq (pv 3) pe_int (nomark _))
 (pss_one (ps_ret (pe_tup (pa_cons (pv 4) (pa_cons (pe_op op_add (pv 2) (pv 0)) (pa_cons pe_non pa_nil))))))
 pss_nil)
 (pss_one (ps_ret (pe_tup (pa_cons (pv 4) (pa_cons (pe_op op_add (pv 4) (pv 0)) (pa_cons (pe_op op_sub (pe_op op_add (pe_op op_mulW (pe_op op_add (pv 0) pe_int) (pv 4)) (pe_op op_fdiv (pe_op op_mulW (pv 0) (pe_op op_add (pv 0) pe_int)) pe_int)) (pv 1)) pa_nil))))))))), ?_⟩
    have w1 : Wd 222 (n + 1) := wn.add wd1
    have w2 : Wd 442 (n * (n + 1) / 2) := (wn.mul w1).div 2
    have w3 : Wd 903 (b - n * (n + 1) / 2) := wb.sub w2
    have cm : CMulW n (n + 1) := wn.cmul w1
    refine ⟨_, rfl, _, rfl, _, rfl, _, _, rfl, rfl, _, _, rfl, rfl, cm, _, _, rfl, rfl, ⟨by decide, by decide⟩, _, _, rfl, rfl, _, rfl, _, _, rfl, divp_wd hn w3 (by decide) (by decide), fun p hp => ?_⟩
    refine ⟨p, _, rfl, SqT.of upd_same, rfl, _, _, rfl, _, _, rfl, rfl, ?_⟩
    refine ⟨_, rfl, _, _, rfl, rfl, ?_⟩
    have s1 : Same H _ := same_new (o := .tup [.int ((b - n * (n + 1) / 2) / n), .int ((b - n * (n + 1) / 2) % n)]) hp
    refine ⟨_, rfl, rfl, _, rfl, ite2 (fun e => ?_) (fun e => ?_)⟩
    · have e0 : (b - n * (n + 1) / 2) % n = 0 := V.int.inj (of_decide_eq_true e)
      have ee : endsOf n b = ((b - n * (n + 1) / 2) / n + 1, (b - n * (n + 1) / 2) / n + n, none) := if_pos e0
      refine ⟨_, rfl, _, rfl, _, rfl, _, _, rfl, rfl, (by show 3 ≤ sizeLine; decide), fun t ht => ?_⟩
      refine q _ t (s1.trans (same_new ht)) (s1.free ht) ?_
      rw [upd_same]
      unfold firstOf lastOf emptyOf
      rw [ee]
      rfl
    · have e0 : ¬ (b - n * (n + 1) / 2) % n = 0 := fun z => e (decide_eq_true (congrArg V.int z))
      have ee : endsOf n b = ((b - n * (n + 1) / 2) / n + 1, (b - n * (n + 1) / 2) / n + 1 + n, some ((n + 1) * ((b - n * (n + 1) / 2) / n + 1) + n * (n + 1) / 2 - b)) := if_neg e0
      have cm2 : CMulW (n + 1) ((b - n * (n + 1) / 2) / n + 1) := w1.cmul ((w3.div n).add wd1)
      refine ⟨_, rfl, _, rfl, _, rfl, _, _, rfl, rfl, _, rfl, _, _, rfl, rfl, _, rfl, _, _, rfl, rfl, cm2, _, rfl, _, rfl, _, _, rfl, rfl, _, _, rfl, rfl, cm, _, _, rfl, rfl, ⟨by decide, by decide⟩, _, _, rfl, rfl, _, rfl, _, _, rfl, rfl, (by show 3 ≤ sizeLine; decide), fun t ht => ?_⟩
      refine q _ t (s1.trans (same_new ht)) (s1.free ht) ?_
      rw [upd_same]
      unfold firstOf lastOf emptyOf
      rw [ee]
      rfl
/-! ### sorted -/
/-- the pair that stands at v -/
def kOf (H : Hp) (v : V) : I2 := match v with
  | .ref t => (match H t with | some (.tup [.int a, .int b]) => (a, b) | _ => (0, 0))
  | _ => (0, 0)
theorem PT.key {H : Hp} {v : V} {h : I2} (p : PT H v h) : kOf H v = h := by
  obtain ⟨t, rfl, e⟩ := p
  show (match H t with | some (.tup [.int a, .int b]) => (a, b) | _ => (0, 0)) = h
  rw [e]
theorem PTs.key {H : Hp} : ∀ {xs : List V} {hs : List I2}, PTs H xs hs → xs.map (kOf H) = hs
  | _, _, .nil => rfl
  | _, _, .cons r t => by rw [List.map_cons, r.key, PTs.key t]
theorem PTs.of_map {H : Hp} : ∀ {xs : List V}, (∀ x ∈ xs, ∃ h, PT H x h) → PTs H xs (xs.map (kOf H))
  | [], _ => .nil
  | x :: xs, h => by
    obtain ⟨k, p⟩ := h x List.mem_cons_self
    have e := p.key
    rw [List.map_cons, e]
    exact .cons p (PTs.of_map fun y m => h y (List.mem_cons_of_mem _ m))
/-- what sorted gives of pairs -/
theorem sorted_is {H : Hp} {xs ys : List V} {hs : List I2} (p : PTs H xs hs) (h1 : SrtO.Srtd (ltP (kOf H)) ys) (h2 : SrtO.Stb (ltP (kOf H)) ys xs) : PTs H ys (srt hs) := by
  have e1 : (ys.map (kOf H)).Perm hs := by
    rw [← p.key]
    exact h2.perm.map _
  have e2 : (ys.map (kOf H)).Pairwise (fun a b => leP a b = true) := by
    refine List.pairwise_map.mpr (h1.imp fun {x y} q => ?_)
    have q2 := SrtO.lexB_no.mp (show SrtO.lexB (kOf H y) (kOf H x) = false from q)
    rw [leP_iff]
    omega
  have e3 := srt_of e1 e2
  rw [← e3]
  refine PTs.of_map fun y m => ?_
  obtain ⟨h, _, r⟩ := pr_mem p (h2.perm.mem_iff.mp m)
  exact ⟨h, r⟩
theorem PT.tup {H : Hp} {x : V} {h : I2} (p : PT H x h) : ∃ t, x = V.ref t ∧ H t = some (.tup [.int (kOf H x).1, .int (kOf H x).2]) := by
  have e := p.key
  obtain ⟨t, rfl, q⟩ := p
  exact ⟨t, rfl, by rw [e]; exact q⟩
/-! ### clusters_of -/
def clV (c : I2) : List V := [.int c.1, .int c.2, .int (firstOf c), .int (lastOf c), optV (emptyOf c)]
def CT (H : Hp) (v : V) (c : I2) : Prop := ∃ t, v = .ref t ∧ H t = some (.tup (clV c))
theorem CT.mono {H H' : Hp} (s : Tp H H') {v : V} {c : I2} (p : CT H v c) : CT H' v c := by
  obtain ⟨t, e, q⟩ := p
  exact ⟨t, e, s _ _ q⟩
abbrev CTs (H : Hp) (xs : List V) (cs : List I2) : Prop := Paired (CT H) xs cs
theorem CTs.mono {H H' : Hp} (s : Tp H H') {xs : List V} {cs : List I2} (p : CTs H xs cs) : CTs H' xs cs := Paired.mapP p fun _ _ q => q.mono s
def optD : Option Int → PyData
  | none => .none
  | some e => .int e
def clD (c : I2) : PyData := .tuple [.int c.1, .int c.2, .int (firstOf c), .int (lastOf c), optD (emptyOf c)]
theorem CTs.dp {H : Hp} : ∀ {xs : List V} {cs : List I2}, CTs H xs cs → DpAll K H xs (cs.map clD)
  | _, _, .nil => .nil
  | _, c :: _, .cons r t => by
    obtain ⟨a, rfl, e⟩ := r
    refine .cons (.tup (SqT.of e) (.cons (.int _) (.cons (.int _) (.cons (.int _) (.cons (.int _) (.cons ?_ .nil)))))) (CTs.dp t)
    cases emptyOf c with
    | none => exact .non
    | some e => exact .int e
theorem clD_lay (c : I2) : PyData.canLay0 (clD c) = true ∧ PyData.depth (clD c) = 1 := by
  unfold clD
  cases emptyOf c <;> exact ⟨rfl, rfl⟩
theorem pairD_lay (c : I2) : PyData.canLay0 (pairD c) = true ∧ PyData.depth (pairD c) = 1 := ⟨rfl, rfl⟩
theorem lay_map {f : I2 → PyData} (hf : ∀ c, PyData.canLay0 (f c) = true ∧ PyData.depth (f c) = 1) : ∀ cs : List I2, PyData.canLayAll0 (cs.map f) = true ∧ PyData.depthAll (cs.map f) ≤ 1
  | [] => ⟨rfl, Nat.zero_le _⟩
  | c :: cs => by
    obtain ⟨h1, h2⟩ := lay_map hf cs
    obtain ⟨g1, g2⟩ := hf c
    refine ⟨?_, ?_⟩
    · show (PyData.canLay0 (f c) && PyData.canLayAll0 (cs.map f)) = true
      rw [g1, h1]; rfl
    · show max (PyData.depth (f c)) (PyData.depthAll (cs.map f)) ≤ 1
      rw [g2]
      omega
theorem shaped_map {f : I2 → PyData} (hf : ∀ c, PyData.canLay0 (f c) = true ∧ PyData.depth (f c) = 1) (cs : List I2) : SeqAt.shaped (.list (cs.map f)) = true := by
  obtain ⟨h1, h2⟩ := lay_map hf cs
  unfold SeqAt.shaped
  rw [Bool.and_eq_true]
  refine ⟨h1, decide_eq_true ?_⟩
  show PyData.depthAll (cs.map f) + 1 ≤ 64
  omega
theorem shaped_nil : SeqAt.shaped (.list []) = true := by decide +kernel
theorem eqv_nil (f : I2 → PyData) : ∀ cs : List I2, PyData.eqv (.list (cs.map f)) (.list []) = decide (cs = [])
  | [] => by
    show PyData.eqvAll [] [] = _
    rw [PyData.eqvAll]; rfl
  | c :: cs => by
    show PyData.eqvAll (f c :: cs.map f) [] = _
    rw [PyData.eqvAll]; rfl
def CL (H : Hp) (a : Addr) (cs : List I2) : Prop := ∃ xs, H a = some (.lst xs) ∧ CTs H xs cs
theorem CL.mono {H H' : Hp} (s : Same H H') {a : Addr} {hs : List I2} (p : CL H a hs) : CL H' a hs := by
  obtain ⟨xs, e, q⟩ := p
  exact ⟨xs, s _ _ e, q.mono (same_tp s)⟩
theorem CL.dp {H : Hp} {a : Addr} {cs : List I2} (p : CL H a cs) : Dp K H (.ref a) (.list (cs.map clD)) := by
  obtain ⟨xs, e, q⟩ := p
  exact .lst (SqL.of e) q.dp
theorem put_pos {st : List I2} {x : I2} (h : 0 < x.2) : put st x = absorb st x.2 (x.2 * x.1) := if_pos h
theorem put_neg {st : List I2} {x : I2} (h : ¬ 0 < x.2) : put st x = st := if_neg h
theorem absorb_meet {c : I2} {st : List I2} {n b : Int} (h : firstOf (n, b) ≤ lastOf c) : absorb (c :: st) n b = absorb st (n + c.1) (b + c.2) := by
  rw [absorb, if_pos h]
theorem absorb_apart {c : I2} {st : List I2} {n b : Int} (h : ¬ firstOf (n, b) ≤ lastOf c) : absorb (c :: st) n b = (n, b) :: c :: st := by
  rw [absorb, if_neg h]
def spClus : Sp := fun vs H Q _ => ∃ a hs, vs = [.ref a] ∧ PL H a hs ∧ HB hs ∧ ∀ H' p, Same H H' → H p = none → CL H' p (clus hs) → Q (.ref p) H'
theorem cal_clusters_of (T : Top K mg) : C8.Cal P w K mg base 2 "clusters_of" spClus [] := by
  have c_ends_of : C8.Cal P w K mg base 1 "ends_of" spEnds [] := cal_ends_of T
  refine T.d_clusters_of.cal sc_clusters_of (fun vs H Q E h => ?_) (fun f cdv A outer s H vs Q E hr h => ?_)
  · obtain ⟨a, hs, rfl, _⟩ := h
    rfl
  · obtain ⟨a, hs, rfl, ⟨xs, ha, px⟩, hb, q⟩ := h
    refine ⟨_, (pss_cons (ps_set (i := 1) sc_clusters_of.nd rfl (Or.inl rfl) (pe_lst pa_nil))
 (pss_cons (ps_for PassesOwn.never rfl (pi_list (pe_callB cr_sortedPO (by rfl) T.m_sorted (by decide +kernel) (pa_cons (pv 0) pa_nil))) (pg_tup rfl (pgs_cons (pg_name (i := 2) sc_clusters_of.nd rfl (Or.inl rfl)) (pgs_cons (pg_name (i := 3) sc_clusters_of.nd rfl (Or.inl rfl)) pgs_nil)))
 (pss_one (ps_if (pt_cmpR op_gt (pv 3) pe_int (nomark _))
 (pss_cons (ps_par (i := 4) (j := 5) (by rfl) sc_clusters_of.nd rfl rfl (by decide) rfl rfl (pa_cons (pv 3) (pa_cons (pe_op op_mulW (pv 3) (pv 2)) pa_nil)) (by rfl))
 (pss_cons (ps_asg (C8.pe_c c_ends_of hr (by decide) (by rfl) (pa_cons (pv 4) (pa_cons (pv 5) pa_nil))) (pg_tup rfl (pgs_cons (pg_name (i := 6) sc_clusters_of.nd rfl (Or.inl rfl)) (pgs_cons (pg_name (i := 7) sc_clusters_of.nd rfl (Or.inl rfl)) (pgs_cons (pg_name (i := 8) sc_clusters_of.nd rfl (Or.inl rfl)) pgs_nil)))))
 (pss_cons (ps_while PassesOwn.never (PW.pt (pw_and (pt_cmpR (op_neD hr.units) (pv 1) (pe_lst pa_nil) (nomark _)) (pw_and1 (pt_cmpR op_ge (pe_ix ix_tup (pe_ix ix_list (pv 1) (pe_un un_neg pe_int) (fun _ _ => rfl)) pe_int (fun _ _ => rfl)) (pv 6) (nomark _)))))
 (pss_cons (ps_aug (i := 4) sc_clusters_of.nd rfl (Or.inl rfl) (pe_ix ix_tup (pe_ix ix_list (pv 1) (pe_un un_neg pe_int) (fun _ _ => rfl)) pe_int (fun _ _ => rfl)) ip_add)
 (pss_cons (ps_aug (i := 5) sc_clusters_of.nd rfl (Or.inl rfl) (pe_ix ix_tup (pe_ix ix_list (pv 1) (pe_un un_neg pe_int) (fun _ _ => rfl)) pe_int (fun _ _ => rfl)) ip_add)
 (pss_cons (ps_expr (pe_bm0 PySem.F.plainAttrs_list PySem.F.slot_list_pop PySem.F.type_list_pop mt_pop (pv 1)))
 (pss_one (ps_asg (C8.pe_c c_ends_of hr (by decide) (by rfl) (pa_cons (pv 4) (pa_cons (pv 5) pa_nil))) (pg_tup rfl (pgs_cons (pg_name (i := 6) sc_clusters_of.nd rfl (Or.inl rfl)) (pgs_cons (pg_name (i := 7) sc_clusters_of.nd rfl (Or.inl rfl)) (pgs_cons (pg_name (i := 8) sc_clusters_of.nd rfl (Or.inl rfl)) pgs_nil))))))))))
 (pss_one (ps_expr (pe_bm PySem.F.plainAttrs_list PySem.F.slot_list_append PySem.F.type_list_append mt_append (pv 1) (pa_cons (pe_tup (pa_cons (pv 4) (pa_cons (pv 5) (pa_cons (pv 6) (pa_cons (pv 7) (pa_cons (pv 8) pa_nil)))))) pa_nil)))))))
 pss_nil)))
 (pss_one (ps_ret (pv 1))))), ?_⟩
    -- found = []
    refine ⟨Nat.zero_le _, fun o no => ?_⟩
    have s1 : Same H (upd H o (.lst [])) := same_new no
    -- sorted(heaps)
    have px1 := px.mono (same_tp s1)
    refine ⟨.ref a, rfl, a, xs, kOf (upd H o (.lst [])), rfl, SqL.of (s1 _ _ ha), fun x m => ?_, fun ys p h1 h2 np => ?_⟩
    · obtain ⟨h, _, r⟩ := pr_mem px1 m
      exact r.tup
    have py := sorted_is px1 h1 h2
    have s2 : Same (upd H o (.lst [])) (upd (upd H o (.lst [])) p (.lst ys)) := same_new np
    have npo : o ≠ p := ne_of_none upd_same np
    have hlen : ys.length ≤ 1000 := by
      rw [pr_len py, (srt_perm hs).length_eq]
      exact hb.len
    have hys : ys.length = (srt hs).length := pr_len py
    have nH : H p = none := s1.free np
    refine ⟨p, rfl, ⟨ys, SqL.of upd_same⟩, for_list (K := K) (a := p) (xs := ys) (fun i σ H3 => ∃ y2 y3 y4 y5 y6 y7 y8, σ = [some (.ref a), some (.ref o), y2, y3, y4, y5, y6, y7, y8] ∧ Same H H3 ∧ H3 p = some (.lst ys) ∧ PTs H3 ys (srt hs) ∧
        CL H3 o (((srt hs).take i).foldl put []).reverse) ⟨none, none, none, none, none, none, none, rfl, s1.trans s2, upd_same, py.mono (same_tp s2), ⟨[], by rw [upd_ne npo, upd_same], .nil⟩⟩ (fun i σ H3 _ hP => ?_) ?_ ?_⟩
    · obtain ⟨_, _, _, _, _, _, _, _, _, e, _⟩ := hP
      exact SqL.of e
    · rintro i v σ H3 hi ⟨y2, y3, y4, y5, y6, y7, y8, rfl, s3, ep, py3, zs, eo, cz⟩
      obtain ⟨h, hh, t, rfl, et⟩ := pr_get py3 hi
      have hil : i < (srt hs).length := (List.getElem?_eq_some_iff.mp hh).1
      have hm : h ∈ hs := (srt_perm hs).mem_iff.mp (List.mem_of_getElem? hh)
      have hst : (srt hs).take (i + 1) = (srt hs).take i ++ [h] := take_snoc hh
      have hB : PB i (((srt hs).take i).foldl put []) := by
        have := PB.nil.fold (l := (srt hs).take i) (fun y m => hb.w1 y ((srt_perm hs).mem_iff.mp (List.mem_of_mem_take m))) (fun y m => hb.w2 y ((srt_perm hs).mem_iff.mp (List.mem_of_mem_take m)))
        rw [List.length_take, Nat.zero_add, Nat.min_eq_left (by omega)] at this
        exact this
      rw [hst, List.foldl_append]
      show gTup K 2 _ _ _ _ _
      -- place, count = the pair
      refine ⟨t, _, rfl, SqT.of et, rfl, _, _, rfl, _, _, rfl, rfl, ?_⟩
      -- if count > 0
      refine ⟨_, rfl, _, _, rfl, rfl, _, rfl, ite2 (fun hc => ?_) (fun hc => ?_)⟩
      · have hc : 0 < h.2 := of_decide_eq_true hc
        have hW := hB.start hc (hb.w1 h hm) (hb.w2 h hm)
        have i1 : i + 1 ≤ 1001 := by omega
        -- many, balance = count, count * place
        refine ⟨_, rfl, _, rfl, _, rfl, _, _, rfl, rfl, (show Wd 200 h.2 from hb.w2 h hm).cmul (show Wd 200 h.1 from hb.w1 h hm), _, _, rfl, ?_⟩
        -- first, last, empty = ends_of(many, balance)
        refine ⟨_, rfl, _, rfl, h.2, h.2 * h.1, rfl, hc, hW.w1 i1, hW.w2 i1, fun H4 t4 s4 n4 e4 => ?_⟩
        refine ⟨t4, _, rfl, SqT.of e4, rfl, _, _, rfl, _, _, rfl, _, _, rfl, rfl, ?_⟩
        -- the while
        refine ⟨fun m σ' H' => ∃ st n b, m = st.length ∧ σ' = [some (.ref a), some (.ref o), some (.int h.1), some (.int h.2), some (.int n), some (.int b), some (.int (firstOf (n, b))), some (.int (lastOf (n, b))), some (optV (emptyOf (n, b)))] ∧
            Same H H' ∧ H' p = some (.lst ys) ∧ PTs H' ys (srt hs) ∧ CL H' o st.reverse ∧ PW (i + 1) st n b ∧ absorb st n b = absorb (((srt hs).take i).foldl put []) h.2 (h.2 * h.1),
          ⟨_, _, h.2, h.2 * h.1, rfl, rfl, s3.trans s4, s4 _ _ ep, py3.mono (same_tp s4), CL.mono s4 ⟨zs, eo, cz⟩, hW, rfl⟩, ?_⟩
        rintro m σ' H5 ⟨st, n, b, rfl, rfl, s5, ep5, py5, ⟨ws, eo5, cw⟩, hW5, hab⟩
        -- found != []
        refine ⟨_, rfl, Nat.zero_le _, fun l nl => ?_⟩
        have s6 : Same H5 (upd H5 l (.lst [])) := same_new nl
        have cw6 := cw.mono (same_tp s6)
        have eo6 := s6 _ _ eo5
        refine ⟨_, _, CL.dp ⟨ws, eo6, cw6⟩, .lst (SqL.of upd_same) .nil, shaped_map clD_lay _, shaped_nil, _, rfl, ?_⟩
        rw [eqv_nil]
        cases st with
        | nil =>
          refine iteF ?_
          refine iteF ?_
          -- found.append(..)
          have e0 : ws = [] := by cases cw; rfl
          subst e0
          refine ⟨_, rfl, .inl ⟨rfl, _, SqL.of eo6⟩, _, rfl, _, rfl, _, rfl, _, rfl, _, rfl, (by show 5 ≤ sizeLine; decide), fun c nc => ?_⟩
          have s7 : Same (upd H5 l (.lst [])) (upd (upd H5 l (.lst [])) c (.tup (clV (n, b)))) := same_new nc
          refine ⟨o, _, _, rfl, rfl, s7 _ _ eo6, by show 0 < sizeLine; decide, ?_⟩
          have npo' : p ≠ o := npo.symm
          refine ⟨_, _, _, _, _, _, _, rfl, same_mut ((s5.trans s6).trans s7) no, ?_, ?_, ?_⟩
          · rw [upd_ne npo']
            exact s7 _ _ (s6 _ _ ep5)
          · exact ((py5.mono (same_tp s6)).mono (same_tp s7)).mono (tp_mut (s7 _ _ eo6))
          · refine ⟨_, upd_same, ?_⟩
            have e : [h].foldl put (((srt hs).take i).foldl put []) = [(n, b)] := (put_pos hc).trans hab.symm
            rw [e]
            exact .cons (CT.mono (tp_mut (s7 _ _ eo6)) ⟨c, rfl, upd_same⟩) .nil
        | cons c st =>
          have c1 : (c :: st).reverse ≠ [] := by simp
          rw [decide_eq_false c1]
          refine iteT ?_
          rw [List.reverse_cons] at cw6 cw
          obtain ⟨ws', x, rfl, cw', t6, rfl, et6⟩ := pr_split cw6
          -- found[-1][3] >= first
          refine ⟨_, rfl, 1, rfl, o, _, -1, _, rfl, rfl, SqL.of eo6, atI_last _ _, t6, _, 3, _, rfl, rfl, SqT.of et6, atI_nat (j := 3) rfl, _, rfl, _, _, rfl, rfl, _, rfl, ite2 (fun hq => ?_) (fun hq => ?_)⟩
          · have hq : firstOf (n, b) ≤ lastOf c := of_decide_eq_true hq
            have hW7 := hW5.step
            refine ⟨fun σ' H' => ∃ st' n b, st'.length < st.length + 1 ∧ σ' = [some (.ref a), some (.ref o), some (.int h.1), some (.int h.2), some (.int n), some (.int b), some (.int (firstOf (n, b))), some (.int (lastOf (n, b))), some (optV (emptyOf (n, b)))] ∧
              Same H H' ∧ H' p = some (.lst ys) ∧ PTs H' ys (srt hs) ∧ CL H' o st'.reverse ∧ PW (i + 1) st' n b ∧ absorb st' n b = absorb (((srt hs).take i).foldl put []) h.2 (h.2 * h.1), fun σ' H' hN => ?_, ?_⟩
            · obtain ⟨st', n', b', hl, r⟩ := hN
              exact ⟨st'.length, hl, st', n', b', rfl, r⟩
            -- many += found[-1][0]; balance += found[-1][1]
            refine ⟨_, rfl, _, rfl, 1, rfl, o, _, -1, _, rfl, rfl, SqL.of eo6, atI_last _ _, t6, _, 0, _, rfl, rfl, SqT.of et6, atI_nat (j := 0) rfl, _, _, rfl, rfl, ?_⟩
            refine ⟨_, rfl, _, rfl, 1, rfl, o, _, -1, _, rfl, rfl, SqL.of eo6, atI_last _ _, t6, _, 1, _, rfl, rfl, SqT.of et6, atI_nat (j := 1) rfl, _, _, rfl, rfl, ?_⟩
            -- found.pop()
            refine ⟨_, rfl, .inl ⟨rfl, _, SqL.of eo6⟩, o, _, .ref t6, rfl, rfl, eo6, by simp, ?_⟩
            -- ends_of
            refine ⟨_, rfl, _, rfl, n + c.1, b + c.2, rfl, hW7.n0, hW7.w1 i1, hW7.w2 i1, fun H8 t8 s8 n8 e8 => ?_⟩
            refine ⟨t8, _, rfl, SqT.of e8, rfl, _, _, rfl, _, _, rfl, _, _, rfl, rfl, ?_⟩
            have npo' : p ≠ o := npo.symm
            refine ⟨st, n + c.1, b + c.2, by omega, rfl, (same_mut (s5.trans s6) no).trans s8, ?_, ?_, ⟨ws', ?_, ?_⟩, hW7, ?_⟩
            · refine s8 _ _ ?_
              rw [upd_ne npo']
              exact s6 _ _ ep5
            · exact ((py5.mono (same_tp s6)).mono (tp_mut eo6)).mono (same_tp s8)
            · refine s8 _ _ ?_
              rw [upd_same, List.dropLast_concat]
            · exact CTs.mono (same_tp s8) (CTs.mono (tp_mut eo6) cw')
            · exact (absorb_meet hq).symm.trans hab
          · have hq : ¬ firstOf (n, b) ≤ lastOf c := fun z => hq (decide_eq_true z)
            -- found.append(..)
            refine ⟨_, rfl, .inl ⟨rfl, _, SqL.of eo6⟩, _, rfl, _, rfl, _, rfl, _, rfl, _, rfl, (by show 5 ≤ sizeLine; decide), fun d nd => ?_⟩
            have s7 : Same (upd H5 l (.lst [])) (upd (upd H5 l (.lst [])) d (.tup (clV (n, b)))) := same_new nd
            have hz : (ws' ++ [V.ref t6]).length ≤ 1001 := by
              have hl := hW5.len
              rw [List.length_cons] at hl
              rw [List.length_append, pr_len cw', List.length_reverse, List.length_singleton]
              omega
            refine ⟨o, _, _, rfl, rfl, s7 _ _ eo6, Evl.sz_lt (by omega), ?_⟩
            have npo' : p ≠ o := npo.symm
            refine ⟨_, _, _, _, _, _, _, rfl, same_mut ((s5.trans s6).trans s7) no, ?_, ?_, ?_⟩
            · rw [upd_ne npo']
              exact s7 _ _ (s6 _ _ ep5)
            · exact ((py5.mono (same_tp s6)).mono (same_tp s7)).mono (tp_mut (s7 _ _ eo6))
            · refine ⟨_, upd_same, ?_⟩
              have e : [h].foldl put (((srt hs).take i).foldl put []) = (n, b) :: c :: st := (put_pos hc).trans (hab.symm.trans (absorb_apart hq))
              rw [e, List.reverse_cons, List.reverse_cons]
              exact pr_snoc (CTs.mono (tp_mut (s7 _ _ eo6)) (CTs.mono (same_tp s7) cw6)) (CT.mono (tp_mut (s7 _ _ eo6)) ⟨d, rfl, upd_same⟩)
      · have hc : ¬ 0 < h.2 := fun z => hc (decide_eq_true z)
        refine ⟨_, _, _, _, _, _, _, rfl, s3, ep, py3, ?_⟩
        have e : [h].foldl put (((srt hs).take i).foldl put []) = ((srt hs).take i).foldl put [] := put_neg hc
        rw [e]
        exact ⟨zs, eo, cz⟩
    · rintro σ H3 ⟨y2, y3, y4, y5, y6, y7, y8, rfl, s3, ep, py3, hC⟩
      refine ⟨_, rfl, q H3 o s3 no ?_⟩
      rw [hys, List.take_length] at hC
      exact hC
end
end Wk
/-! the walk, part C: stretches_of -/
namespace Wk
open PySem PySem.Spec PyProof.Rows L2 Spr
section
variable {P : Program} {w : World} {K : PySem.W.Frag} {mg : Str → Option Value} {base : Heap}
theorem joinp_len (acc : List I2) (p : I2) : (joinp acc p).length ≤ acc.length + 1 := by
  unfold joinp
  split
  · exact Nat.le_refl _
  · split
    · rw [List.length_cons, List.length_cons]; omega
    · exact Nat.le_refl _
theorem joins_len : ∀ (l acc : List I2), (l.foldl joinp acc).length ≤ acc.length + l.length
  | [], acc => Nat.le_refl _
  | p :: l, acc => by
    have h1 := joins_len l (joinp acc p)
    have h2 := joinp_len acc p
    rw [List.foldl_cons, List.length_cons]
    omega
theorem parts_len (c : I2) : (parts c).length ≤ 2 := by
  unfold parts
  split
  · exact Nat.le_succ 1
  · exact Nat.le_refl 2
theorem flat_len : ∀ l : List I2, (l.flatMap parts).length ≤ 2 * l.length
  | [] => Nat.le_refl _
  | c :: l => by
    have h1 := flat_len l
    have h2 := parts_len c
    rw [List.flatMap_cons, List.length_append, List.length_cons]
    omega
theorem HB.clus {hs : List I2} (h : HB hs) : PB hs.length (clusS (srt hs)) := by
  have := PB.nil.fold (l := srt hs) (fun y m => h.w1 y ((srt_perm hs).mem_iff.mp m)) (fun y m => h.w2 y ((srt_perm hs).mem_iff.mp m))
  rw [Nat.zero_add, (srt_perm hs).length_eq] at this
  exact this
theorem parts_none {c : I2} (e : emptyOf c = none) : parts c = [(firstOf c, lastOf c)] := by unfold parts; rw [e]
theorem parts_some {c : I2} {x : Int} (e : emptyOf c = some x) : parts c = [(firstOf c, x - 1), (x + 1, lastOf c)] := by unfold parts; rw [e]
def spStr : Sp := fun vs H Q _ => ∃ a hs, vs = [.ref a] ∧ PL H a hs ∧ HB hs ∧ ∀ H' p, Same H H' → H p = none → PL H' p (stretches hs) → Q (.ref p) H'
theorem cal_stretches_of (T : Top K mg) : C8.Cal P w K mg base 3 "stretches_of" spStr [] := by
  have c_clusters_of : C8.Cal P w K mg base 2 "clusters_of" spClus [] := cal_clusters_of T
  refine T.d_stretches_of.cal sc_stretches_of (fun vs H Q E h => ?_) (fun f cdv A outer s H vs Q E hr h => ?_)
  · obtain ⟨a, hs, rfl, _⟩ := h
    rfl
  · obtain ⟨a, hs, rfl, hp, hb, q⟩ := h
    refine ⟨_, (pss_cons (ps_set (i := 1) sc_stretches_of.nd rfl (Or.inl rfl) (pe_lst pa_nil))
 (pss_cons (ps_for PassesOwn.never rfl (pi_list (C8.pe_c c_clusters_of hr (by decide) (by rfl) (pa_cons (pv 0) pa_nil))) (pg_tup rfl (pgs_cons (pg_name (i := 2) sc_stretches_of.nd rfl (Or.inl rfl)) (pgs_cons (pg_name (i := 3) sc_stretches_of.nd rfl (Or.inl rfl)) (pgs_cons (pg_name (i := 4) sc_stretches_of.nd rfl (Or.inl rfl)) (pgs_cons (pg_name (i := 5) sc_stretches_of.nd rfl (Or.inl rfl)) (pgs_cons (pg_name (i := 6) sc_stretches_of.nd rfl (Or.inl rfl)) pgs_nil))))))
 (pss_cons (ps_set (i := 7) sc_stretches_of.nd rfl (Or.inl rfl) (pe_lst (pa_cons (pe_tup (pa_cons (pv 4) (pa_cons (pv 5) pa_nil))) pa_nil)))
 (C8.pss_cut (ps_if (pt_cmpR op_notN (pv 6) pe_non (nomark _))
 (pss_one (ps_set (i := 7) sc_stretches_of.nd rfl (Or.inl rfl) (pe_lst (pa_cons (pe_tup (pa_cons (pv 4) (pa_cons (pe_op op_sub (pv 6) pe_int) pa_nil))) (pa_cons (pe_tup (pa_cons (pe_op op_add (pv 6) pe_int) (pa_cons (pv 5) pa_nil))) pa_nil)))))
 pss_nil)
 (pss_one (ps_for PassesOwn.never rfl (pi_list (pv 7)) (pg_tup rfl (pgs_cons (pg_name (i := 8) sc_stretches_of.nd rfl (Or.inl rfl)) (pgs_cons (pg_name (i := 9) sc_stretches_of.nd rfl (Or.inl rfl)) pgs_nil)))
 (C8.pss_cut (ps_if (PW.pt (pw_and (pt_cmpR (op_neD hr.units) (pv 1) (pe_lst pa_nil) (nomark _)) (pw_and1 (pt_cmpR op_eq (pe_op op_add (pe_ix ix_tup (pe_ix ix_list (pv 1) (pe_un un_neg pe_int) (fun _ _ => rfl)) pe_int (fun _ _ => rfl)) pe_int) (pv 8) (nomark _)))))
 (pss_one (ps_set (i := 8) sc_stretches_of.nd rfl (Or.inl rfl) (pe_ix ix_tup (pe_bm0 PySem.F.plainAttrs_list PySem.F.slot_list_pop PySem.F.type_list_pop mt_pop (pv 1)) pe_int (fun _ _ => rfl))))
 pss_nil)
 (pss_one (ps_expr (pe_bm PySem.F.plainAttrs_list PySem.F.slot_list_append PySem.F.type_list_append mt_append (pv 1) (pa_cons (pe_tup (pa_cons (pv 8) (pa_cons (pv 9) pa_nil))) pa_nil))))))))))
 (pss_one (ps_ret (pv 1))))), ?_⟩
    -- found = []
    refine ⟨Nat.zero_le _, fun o no => ?_⟩
    have s1 : Same H (upd H o (.lst [])) := same_new no
    have hcl : (clus hs).length ≤ 1000 := by
      have h1 := hb.clus.len
      have h2 := hb.len
      unfold clus
      rw [List.length_reverse]
      omega
    -- clusters_of(heaps)
    refine ⟨.ref a, rfl, a, hs, rfl, hp.mono s1, hb, fun H2 r s2 nr hC => ?_⟩
    obtain ⟨rs, er, cr⟩ := hC
    have nro : o ≠ r := ne_of_none upd_same nr
    have eo2 : H2 o = some (.lst []) := s2 _ _ upd_same
    refine ⟨r, rfl, ⟨rs, SqL.of er⟩, for_list (K := K) (a := r) (xs := rs) (fun i σ H3 => ∃ y2 y3 y4 y5 y6 y7 y8 y9, σ = [some (.ref a), some (.ref o), y2, y3, y4, y5, y6, y7, y8, y9] ∧ Same H H3 ∧ H3 r = some (.lst rs) ∧ CTs H3 rs (clus hs) ∧
        PL H3 o (((((clus hs).take i).flatMap parts).foldl joinp []).reverse)) ⟨none, none, none, none, none, none, none, none, rfl, s1.trans s2, er, cr, ⟨[], eo2, .nil⟩⟩ (fun i σ H3 _ hP => ?_) ?_ ?_⟩
    · obtain ⟨_, _, _, _, _, _, _, _, _, _, e, _⟩ := hP
      exact SqL.of e
    · rintro i v σ H3 hi ⟨y2, y3, y4, y5, y6, y7, y8, y9, rfl, s3, er3, cr3, hF⟩
      obtain ⟨c, hc, t, rfl, et⟩ := pr_get cr3 hi
      have hil : i < (clus hs).length := (List.getElem?_eq_some_iff.mp hc).1
      have hst : (clus hs).take (i + 1) = (clus hs).take i ++ [c] := take_snoc hc
      have hlen := joins_len (((clus hs).take i).flatMap parts) []
      have hlen2 := flat_len ((clus hs).take i)
      rw [List.length_take] at hlen2
      rw [List.length_nil] at hlen
      rw [hst, List.flatMap_append, List.foldl_append]
      show gTup K 5 _ _ _ _ _
      have e1 : [c].flatMap parts = parts c := by
        rw [List.flatMap_cons, List.flatMap_nil, List.append_nil]
      rw [e1]
      generalize (((clus hs).take i).flatMap parts).foldl joinp [] = acc at hF hlen ⊢
      -- many, balance, first, last, empty = the cluster
      refine ⟨t, _, rfl, SqT.of et, rfl, _, _, rfl, _, _, rfl, _, _, rfl, _, _, rfl, _, _, rfl, rfl, ?_⟩
      -- parts = [(first, last)]
      refine ⟨_, rfl, _, rfl, (by show 2 ≤ sizeLine; decide), fun u1 nu1 => ⟨(by show 1 ≤ sizeLine; decide), fun l nl => ?_⟩⟩
      have s4 : Same H3 (upd H3 u1 (.tup [.int (firstOf c), .int (lastOf c)])) := same_new nu1
      have s5 : Same (upd H3 u1 (.tup [.int (firstOf c), .int (lastOf c)])) (upd (upd H3 u1 (.tup [.int (firstOf c), .int (lastOf c)])) l (.lst [.ref u1])) := same_new nl
      have s35 := s4.trans s5
      -- if empty is not None
      refine ⟨fun σ' H' => ∃ l zs, σ' = [some (.ref a), some (.ref o), some (.int c.1), some (.int c.2), some (.int (firstOf c)), some (.int (lastOf c)), some (optV (emptyOf c)), some (.ref l), y8, y9] ∧
          Same H3 H' ∧ H3 l = none ∧ H' l = some (.lst zs) ∧ PTs H' zs (parts c), ⟨_, rfl, rfl, _, rfl, ite2 (fun he => ?_) (fun he => ?_)⟩, ?_⟩
      · cases ee : emptyOf c with
        | none =>
          rw [ee] at he
          exact absurd he (by decide)
        | some x =>
          refine ⟨_, rfl, _, rfl, _, _, rfl, rfl, (by show 2 ≤ sizeLine; decide), fun u2 nu2 => ⟨_, rfl, _, _, rfl, rfl, _, rfl, (by show 2 ≤ sizeLine; decide), fun u3 nu3 => ⟨(by show 2 ≤ sizeLine; decide), fun l2 nl2 => ?_⟩⟩⟩
          have s6 := s35.trans (same_new (o := .tup [.int (firstOf c), .int (x - 1)]) nu2)
          have s7 := same_new (o := .tup [.int (x + 1), .int (lastOf c)]) nu3
          have s8 := same_new (o := .lst [.ref u2, .ref u3]) nl2
          refine ⟨l2, _, ?_, (s6.trans s7).trans s8, (s6.trans s7).free nl2, upd_same, ?_⟩
          · rfl
          · rw [parts_some ee]
            exact .cons ⟨u2, rfl, s8 _ _ (s7 _ _ upd_same)⟩ (.cons ⟨u3, rfl, s8 _ _ upd_same⟩ .nil)
      · cases ee : emptyOf c with
        | none =>
          refine ⟨l, _, rfl, s35, s4.free nl, upd_same, ?_⟩
          rw [parts_none ee]
          exact .cons ⟨u1, rfl, s5 _ _ upd_same⟩ .nil
        | some x =>
          rw [ee] at he
          exact absurd (show (!decide (V.int x = V.non)) = true by rw [decide_eq_false (fun z => nomatch z)]; rfl) he
      · rintro σ' H4 ⟨l, zs, rfl, s6, nl, el, pz⟩
        obtain ⟨fs, eo3, pf⟩ := hF
        have nlo : l ≠ o := (ne_of_none eo3 nl).symm
        have nlr : l ≠ r := (ne_of_none er3 nl).symm
        have hz : zs.length = (parts c).length := pr_len pz
        have hpl := parts_len c
        -- for begin, end in parts
        refine ⟨_, rfl, l, rfl, ⟨_, SqL.of el⟩, for_list (K := K) (a := l) (xs := zs) (fun j σ H5 => ∃ y8 y9, σ = [some (.ref a), some (.ref o), some (.int c.1), some (.int c.2), some (.int (firstOf c)), some (.int (lastOf c)), some (optV (emptyOf c)), some (.ref l), y8, y9] ∧
            Same H H5 ∧ H5 r = some (.lst rs) ∧ CTs H5 rs (clus hs) ∧ H5 l = some (.lst zs) ∧ PTs H5 zs (parts c) ∧ PL H5 o (((parts c).take j).foldl joinp acc).reverse)
          ⟨y8, y9, rfl, s3.trans s6, s6 _ _ er3, CTs.mono (same_tp s6) cr3, el, pz, fs, s6 _ _ eo3, PTs.mono (same_tp s6) pf⟩ (fun j σ H5 _ hP => ?_) ?_ ?_⟩
        · obtain ⟨_, _, _, _, _, _, e, _⟩ := hP
          exact SqL.of e
        · rintro j v σ H5 hj ⟨y8, y9, rfl, s7, er5, cr5, el5, pz5, hF5⟩
          obtain ⟨pq, hpq, t5, rfl, et5⟩ := pr_get pz5 hj
          have hjl : j < (parts c).length := (List.getElem?_eq_some_iff.mp hpq).1
          have hlen3 := joins_len ((parts c).take j) acc
          rw [List.length_take] at hlen3
          rw [take_snoc hpq, List.foldl_append]
          show gTup K 2 _ _ _ _ _
          generalize ((parts c).take j).foldl joinp acc = acc2 at hF5 hlen3 ⊢
          -- begin, end = the part
          refine ⟨t5, _, rfl, SqT.of et5, rfl, _, _, rfl, _, _, rfl, rfl, ?_⟩
          -- if found != [] and found[-1][1] + 1 == begin
          obtain ⟨gs, eo5, pg⟩ := hF5
          refine ⟨fun σ' H' => ∃ b acc', σ' = [some (.ref a), some (.ref o), some (.int c.1), some (.int c.2), some (.int (firstOf c)), some (.int (lastOf c)), some (optV (emptyOf c)), some (.ref l), some (.int b), some (.int pq.2)] ∧
            Same H H' ∧ H' r = some (.lst rs) ∧ CTs H' rs (clus hs) ∧ H' l = some (.lst zs) ∧ PTs H' zs (parts c) ∧ PL H' o acc'.reverse ∧ joinp acc2 pq = (b, pq.2) :: acc' ∧ acc'.length ≤ acc2.length, ?_, ?_⟩
          · refine ⟨_, rfl, Nat.zero_le _, fun k nk => ?_⟩
            have s8 : Same H5 (upd H5 k (.lst [])) := same_new nk
            have pg8 := PTs.mono (same_tp s8) pg
            have eo8 := s8 _ _ eo5
            refine ⟨_, _, PL.dp ⟨gs, eo8, pg8⟩, .lst (SqL.of upd_same) .nil, shaped_map pairD_lay _, shaped_nil, _, rfl, ?_⟩
            rw [eqv_nil]
            cases acc2 with
            | nil =>
              refine iteF ?_
              refine iteF ?_
              exact ⟨pq.1, [], rfl, s7.trans s8, s8 _ _ er5, CTs.mono (same_tp s8) cr5, s8 _ _ el5, PTs.mono (same_tp s8) pz5, ⟨gs, eo8, pg8⟩, rfl, Nat.le_refl _⟩
            | cons g acc2 =>
              have c1 : (g :: acc2).reverse ≠ [] := by simp
              rw [decide_eq_false c1]
              refine iteT ?_
              rw [List.reverse_cons] at pg8
              obtain ⟨gs', x, rfl, pg', t6, rfl, et6⟩ := pr_split pg8
              refine ⟨_, rfl, 1, rfl, o, _, -1, _, rfl, rfl, SqL.of eo8, atI_last _ _, t6, _, 1, _, rfl, rfl, SqT.of et6, atI_nat (j := 1) rfl, _, _, rfl, rfl, _, rfl, rfl, _, rfl, ite2 (fun hq => ?_) (fun hq => ?_)⟩
              · have hq : g.2 + 1 = pq.1 := V.int.inj (of_decide_eq_true hq)
                -- begin = found.pop()[0]
                refine ⟨_, rfl, .inl ⟨rfl, _, SqL.of eo8⟩, o, _, .ref t6, rfl, rfl, eo8, by simp, ?_⟩
                have tp9 := tp_mut (o := .lst ((gs' ++ [V.ref t6]).dropLast)) eo8
                refine ⟨t6, _, 0, _, rfl, rfl, SqT.of (tp9 _ _ et6), atI_nat (j := 0) rfl, ?_⟩
                have nro' : r ≠ o := nro.symm
                refine ⟨g.1, acc2, rfl, same_mut (s7.trans s8) no, ?_, CTs.mono tp9 (CTs.mono (same_tp s8) cr5), ?_, PTs.mono tp9 (PTs.mono (same_tp s8) pz5), ⟨gs', ?_, PTs.mono tp9 pg'⟩, if_pos hq, Nat.le_succ _⟩
                · rw [upd_ne nro']
                  exact s8 _ _ er5
                · rw [upd_ne nlo]
                  exact s8 _ _ el5
                · rw [upd_same, List.dropLast_concat]
              · have hq : ¬ g.2 + 1 = pq.1 := fun z => hq (decide_eq_true (congrArg V.int z))
                refine ⟨pq.1, g :: acc2, rfl, s7.trans s8, s8 _ _ er5, CTs.mono (same_tp s8) cr5, s8 _ _ el5, PTs.mono (same_tp s8) pz5, ⟨_, eo8, ?_⟩, if_neg hq, Nat.le_refl _⟩
                rw [List.reverse_cons]
                exact pg8
          · -- found.append((begin, end))
            rintro σ' H6 ⟨b, acc', rfl, s8, er6, cr6, el6, pz6, ⟨gs6, eo6, pg6⟩, hj, hl'⟩
            refine ⟨_, rfl, .inl ⟨rfl, _, SqL.of eo6⟩, _, rfl, _, rfl, (by show 2 ≤ sizeLine; decide), fun u nu => ?_⟩
            have s9 : Same H6 (upd H6 u (.tup [.int b, .int pq.2])) := same_new nu
            have eo9 := s9 _ _ eo6
            refine ⟨o, _, _, rfl, rfl, eo9, Evl.sz_lt ?_, ?_⟩
            · rw [pr_len pg6, List.length_reverse]
              omega
            have tp9 := tp_mut (o := .lst (gs6 ++ [V.ref u])) eo9
            have nro' : r ≠ o := nro.symm
            refine ⟨_, _, rfl, same_mut (s8.trans s9) no, ?_, CTs.mono tp9 (CTs.mono (same_tp s9) cr6), ?_, PTs.mono tp9 (PTs.mono (same_tp s9) pz6), ⟨_, upd_same, ?_⟩⟩
            · rw [upd_ne nro']
              exact s9 _ _ er6
            · rw [upd_ne nlo]
              exact s9 _ _ el6
            · show PTs _ _ (joinp acc2 pq).reverse
              rw [hj, List.reverse_cons]
              exact pr_snoc (PTs.mono tp9 (PTs.mono (same_tp s9) pg6)) ⟨u, rfl, tp9 _ _ upd_same⟩
        · rintro σ H5 ⟨y8, y9, rfl, s7, er5, cr5, el5, pz5, hF5⟩
          rw [hz, List.take_length] at hF5
          exact ⟨_, _, _, _, _, _, _, _, rfl, s7, er5, cr5, hF5⟩
    · rintro σ H3 ⟨y2, y3, y4, y5, y6, y7, y8, y9, rfl, s3, er3, cr3, hF⟩
      refine ⟨_, rfl, q H3 o s3 no ?_⟩
      rw [pr_len cr3, List.take_length] at hF
      exact hF
end
end Wk
/-! the walk, part D: the law's own cells, draws, heaps -/
namespace Wk
open PySem PySem.Spec PyProof.Rows L2 Spr
section
variable {P : Program} {w : World} {K : PySem.W.Frag} {mg : Str → Option Value} {base : Heap}
/-- a cell of the list: some number -/
def spCell (K : PySem.W.Frag) : Sp := fun vs H Q _ => ∃ (a : Addr) (ns : List Int) (k : Int), vs = [.ref a, .int k] ∧ SqL K H a (ns.map V.int) ∧ 0 ≤ k ∧ ∀ i : Int, Q (.int i) H
theorem ints_at {ns : List Int} {k : Int} (h0 : 0 ≤ k) (h : k < (ns.length : Int)) : ∃ z, ns[k.toNat]? = some z ∧ atI (ns.map V.int) k = some (.int z) := by
  have h1 : k.toNat < ns.length := by omega
  refine ⟨ns[k.toNat], List.getElem?_eq_getElem h1, ?_⟩
  refine at_of (j := k.toNat) (by omega) ?_
  rw [List.getElem?_map, List.getElem?_eq_getElem h1]
  rfl
theorem cal_cell_at (T : Top K mg) : C8.Cal P w K mg base 1 "_law_cell_at" (spCell K) [] := by
  refine T.d__law_cell_at.cal sc__law_cell_at (fun vs H Q E h => ?_) (fun f cdv A outer s H vs Q E hr h => ?_)
  · obtain ⟨a, ns, k, rfl, _⟩ := h
    rfl
  · obtain ⟨a, ns, k, rfl, hS, h0, q⟩ := h
    refine ⟨_, (pss_cons (ps_if (pt_cmpR op_lt (pv 1) (pe_callB call_len_seq (by rfl) T.m_len (by decide +kernel) (pa_cons (pv 0) pa_nil)) (nomark _))
 (pss_one (ps_ret (pe_ix ix_list (pv 0) (pv 1) (fun _ _ => rfl))))
 pss_nil)
 (pss_one (ps_ret pe_int))), ?_⟩
    refine ⟨_, rfl, _, rfl, a, _, rfl, .inl hS, _, _, rfl, rfl, _, rfl, ite2 (fun e => ?_) (fun e => ?_)⟩
    · have e1 : k < ((ns.map V.int).length : Int) := of_decide_eq_true e
      rw [List.length_map] at e1
      obtain ⟨z, _, hz⟩ := ints_at h0 e1
      exact ⟨_, rfl, _, rfl, a, _, k, _, rfl, rfl, hS, hz, q z⟩
    · exact q 0
/-- a draw: some number from 0 to below many -/
def spDraw : Sp := fun vs H Q _ => ∃ cell k many : Int, vs = [.int cell, .int k, .int many] ∧ 0 ≤ k ∧ 0 < many ∧ ∀ (r : Int) H', 0 ≤ r → r < many → Same H H' → Q (.int r) H'
def primesL : List Int := [1000003, 1000033, 1000037, 1000039, 1000081, 1000099, 1000117, 1000121, 1000133, 1000151, 1000159, 1000171, 1000183, 1000187, 1000193, 1000199]
theorem primes_pos : ∀ i : Nat, i < 16 → ∃ z : Int, primesL[i]? = some z ∧ 0 < z := by
  intro i hi
  have h : ∀ i : Nat, i < 16 → (primesL[i]?.getD 0 > 0 ∧ (primesL[i]?).isSome) := by decide +kernel
  obtain ⟨h1, h2⟩ := h i hi
  cases e : primesL[i]? with
  | none => rw [e] at h2; cases h2
  | some z => rw [e] at h1; exact ⟨z, rfl, h1⟩
theorem cal_draw (T : Top K mg) : C8.Cal P w K mg base 1 "_law_draw" spDraw [] := by
  refine T.d__law_draw.cal sc__law_draw (fun vs H Q E h => ?_) (fun f cdv A outer s H vs Q E hr h => ?_)
  · obtain ⟨a, ns, k, rfl, _⟩ := h
    rfl
  · obtain ⟨cell, k, many, rfl, h0, hm, q⟩ := h
    refine ⟨_, (pss_cons (ps_set (i := 3) sc__law_draw.nd rfl (Or.inl rfl) (pe_tup (pa_cons pe_int (pa_cons pe_int (pa_cons pe_int (pa_cons pe_int (pa_cons pe_int (pa_cons pe_int (pa_cons pe_int (pa_cons pe_int (pa_cons pe_int (pa_cons pe_int (pa_cons pe_int (pa_cons pe_int (pa_cons pe_int (pa_cons pe_int (pa_cons pe_int (pa_cons pe_int pa_nil))))))))))))))))))
 (pss_one (ps_ret (pe_op op_mod (pe_op op_mod (pe_op op_add (pe_op op_mul (pv 0) pe_int) (pe_op op_mul (pv 1) pe_int)) (pe_ix ix_tup (pv 3) (pe_op op_mod (pv 1) pe_int) (fun _ _ => rfl))) (pv 2))))), ?_⟩
    refine ⟨(by show 16 ≤ sizeLine; decide), fun t nt => ?_⟩
    have hk : 0 ≤ k % 16 ∧ k % 16 < 16 := by omega
    obtain ⟨z, hz, hz0⟩ := primes_pos (k % 16).toNat (by omega)
    have ha : atI (primesL.map V.int) (k % 16) = some (.int z) := by
      refine at_of (j := (k % 16).toNat) (by omega) ?_
      rw [List.getElem?_map, hz]
      rfl
    refine ⟨_, rfl, _, _, rfl, rfl, .inr (by decide), _, rfl, _, _, rfl, rfl, .inr (by decide), _, _, rfl, rfl, _, rfl, _, rfl, _, _, rfl, rfl, (show (0 : Int) < 16 by decide), t, primesL.map V.int, _, _, rfl, rfl, SqT.of upd_same, ha, _, _, rfl, rfl, hz0, _, rfl, _, _, rfl, rfl, hm, ?_⟩
    exact q _ _ (Int.emod_nonneg _ (by omega)) (Int.emod_lt_of_pos _ hm) (same_new nt)
end
end Wk
/-! the walk, part D2: the law's own heaps -/
namespace Wk
open PySem PySem.Spec PyProof.Rows L2 Spr
section
variable {P : Program} {w : World} {K : PySem.W.Frag} {mg : Str → Option Value} {base : Heap}
/-- heaps as the law makes them -/
structure HX (hs : List I2) : Prop where
  len : hs.length ≤ 63
  pos : ∀ h ∈ hs, 0 ≤ h.2
  w1 : ∀ h ∈ hs, h.1.natAbs < 10 ^ 40
  w2 : ∀ h ∈ hs, h.2 < 10 ^ 40
theorem HX.hb {hs : List I2} (h : HX hs) : HB hs := by
  have z : (10 : Nat) ^ 40 < 2 ^ 200 := by decide +kernel
  refine ⟨Nat.le_trans h.len (by decide), h.pos, fun x m => Nat.lt_trans (h.w1 x m) z, fun x m => ?_⟩
  have h1 := h.pos x m
  have h2 := h.w2 x m
  refine Nat.lt_trans ?_ z
  have e : ((10 : Int) ^ 40) = ((10 ^ 40 : Nat) : Int) := by decide +kernel
  rw [e] at h2
  generalize (10 : Nat) ^ 40 = N at *
  omega
theorem HX.snoc {hs : List I2} (h : HX hs) (l : hs.length ≤ 62) {x : I2} (h0 : 0 ≤ x.2) (h1 : x.1.natAbs < 10 ^ 40) (h2 : x.2 < 10 ^ 40) : HX (hs ++ [x]) := by
  refine ⟨by rw [List.length_append, List.length_singleton]; omega, fun y m => ?_, fun y m => ?_, fun y m => ?_⟩
  · rcases List.mem_append.mp m with m | m
    · exact h.pos y m
    · rw [List.mem_singleton.mp m]; exact h0
  · rcases List.mem_append.mp m with m | m
    · exact h.w1 y m
    · rw [List.mem_singleton.mp m]; exact h1
  · rcases List.mem_append.mp m with m | m
    · exact h.w2 y m
    · rw [List.mem_singleton.mp m]; exact h2
theorem HX.nil : HX [] := ⟨Nat.zero_le _, fun _ m => (nomatch m), fun _ m => (nomatch m), fun _ m => (nomatch m)⟩
theorem PL.same_len {H : Hp} {a : Addr} {hs : List I2} (p : PL H a hs) {xs : List V} (e : H a = some (.lst xs)) : xs.length = hs.length := by
  obtain ⟨ys, e2, q⟩ := p
  rw [e] at e2
  cases e2
  exact pr_len q
def spHeaps (K : PySem.W.Frag) : Sp := fun vs H Q _ => ∃ (a : Addr) (ns : List Int), vs = [.ref a] ∧ SqL K H a (ns.map V.int) ∧ ns.length ≤ 63 ∧ ∀ hs H' p, HX hs → Same H H' → H p = none → PL H' p hs → Q (.ref p) H'
theorem rgc2 (m : Nat) (h : m < 32) : RgC 0 ((2 * m : Nat) : Int) 2 m := by
  have h1 : ∀ m : Nat, m < 32 → (Builtin.Range.small 0 ((2 * m : Nat) : Int) 2 = true ∧ Builtin.Range.rangeSize 0 ((2 * m : Nat) : Int) 2 = m) := by decide +kernel
  exact ⟨by decide, by decide, h1 m h⟩
theorem cal_heaps (T : Top K mg) : C8.Cal P w K mg base 2 "_law_heaps" (spHeaps K) [] := by
  have c__law_cell_at : C8.Cal P w K mg base 1 "_law_cell_at" (spCell K) [] := cal_cell_at T
  have c__law_draw : C8.Cal P w K mg base 1 "_law_draw" spDraw [] := cal_draw T
  refine T.d__law_heaps.cal sc__law_heaps (fun vs H Q E h => ?_) (fun f cdv A outer s H vs Q E hr h => ?_)
  · obtain ⟨a, ns, rfl, _⟩ := h
    rfl
  · obtain ⟨a, ns, rfl, hS, hlen, q⟩ := h
    refine ⟨_, (pss_cons (ps_set (i := 1) sc__law_heaps.nd rfl (Or.inl rfl) (pe_lst pa_nil))
 (pss_cons (ps_if (pt_cmpR op_eq (pe_op op_mod (pe_callB call_len_seq (by rfl) T.m_len (by decide +kernel) (pa_cons (pv 0) pa_nil)) pe_int) pe_int (nomark _))
 (pss_cons (ps_for PassesOwn.never rfl (pi_range3 (by rfl) T.m_range (pa_cons pe_int (pa_cons (pe_callB call_len_seq (by rfl) T.m_len (by decide +kernel) (pa_cons (pv 0) pa_nil)) (pa_cons pe_int pa_nil)))) (pg_name (i := 2) sc__law_heaps.nd rfl (Or.inl rfl))
 (pss_one (ps_expr (pe_bm PySem.F.plainAttrs_list PySem.F.slot_list_append PySem.F.type_list_append mt_append (pv 1) (pa_cons (pe_tup (pa_cons (pe_op op_mul (pe_op op_mod (pe_op op_fdiv (pe_ix ix_list (pv 0) (pv 2) (fun _ _ => rfl)) pe_int) (pe_op op_pow pe_int pe_int)) (pe_op op_sub pe_int (pe_op op_mul (pe_op op_mod (pe_ix ix_list (pv 0) (pv 2) (fun _ _ => rfl)) pe_int) pe_int))) (pa_cons (pe_op op_mod (pe_ix ix_list (pv 0) (pe_op op_add (pv 2) pe_int) (fun _ _ => rfl)) (pe_op op_pow pe_int pe_int)) pa_nil))) pa_nil)))))
 (pss_one (ps_ret (pv 1))))
 pss_nil)
 (pss_cons (ps_set (i := 3) sc__law_heaps.nd rfl (Or.inl rfl) (pe_ix ix_tup (pe_tup (pa_cons pe_int (pa_cons pe_int (pa_cons pe_int (pa_cons pe_int pa_nil))))) (C8.pe_c c__law_draw hr (by decide) (by rfl) (pa_cons (C8.pe_c c__law_cell_at hr (by decide) (by rfl) (pa_cons (pv 0) (pa_cons pe_int pa_nil))) (pa_cons pe_int (pa_cons pe_int pa_nil)))) (fun _ _ => rfl)))
 (pss_cons (ps_set (i := 4) sc__law_heaps.nd rfl (Or.inl rfl) (pe_ix ix_tup (pe_tup (pa_cons pe_int (pa_cons pe_int (pa_cons pe_int (pa_cons pe_int pa_nil))))) (C8.pe_c c__law_draw hr (by decide) (by rfl) (pa_cons (C8.pe_c c__law_cell_at hr (by decide) (by rfl) (pa_cons (pv 0) (pa_cons pe_int pa_nil))) (pa_cons pe_int (pa_cons pe_int pa_nil)))) (fun _ _ => rfl)))
 (pss_cons (ps_for PassesOwn.never rfl (pi_range1 (by rfl) T.m_range (pa_cons (pe_callB call_len_seq (by rfl) T.m_len (by decide +kernel) (pa_cons (pv 0) pa_nil)) pa_nil)) (pg_name (i := 2) sc__law_heaps.nd rfl (Or.inl rfl))
 (pss_one (ps_expr (pe_bm PySem.F.plainAttrs_list PySem.F.slot_list_append PySem.F.type_list_append mt_append (pv 1) (pa_cons (pe_tup (pa_cons (pe_op op_sub (C8.pe_c c__law_draw hr (by decide) (by rfl) (pa_cons (pe_ix ix_list (pv 0) (pv 2) (fun _ _ => rfl)) (pa_cons (pe_op op_add (pe_op op_mod (pv 2) pe_int) pe_int) (pa_cons (pv 4) pa_nil)))) (pe_op op_fdiv (pv 4) pe_int)) (pa_cons (C8.pe_c c__law_draw hr (by decide) (by rfl) (pa_cons (pe_ix ix_list (pv 0) (pv 2) (fun _ _ => rfl)) (pa_cons (pe_op op_add (pe_op op_mod (pv 2) pe_int) pe_int) (pa_cons (pv 3) pa_nil)))) pa_nil))) pa_nil)))))
 (pss_one (ps_ret (pv 1)))))))), ?_⟩
    have z40 : (10 : Int) ^ (40 : Int).toNat = 10 ^ 40 := rfl
    have hp40 : (0 : Int) < 10 ^ 40 := by decide +kernel
    -- _law_found = []
    refine ⟨Nat.zero_le _, fun o no => ?_⟩
    have s1 : Same H (upd H o (.lst [])) := same_new no
    refine ⟨_, rfl, a, _, rfl, .inl (s1.seq hS), _, _, rfl, rfl, (by show (0 : Int) < 2; decide), rfl, _, rfl, ite2 (fun e => ?_) (fun e => ?_)⟩
    · have e0 : ((ns.map V.int).length : Int) % 2 = 0 := V.int.inj (of_decide_eq_true e)
      rw [List.length_map] at e0
      obtain ⟨m, hm⟩ : ∃ m, ns.length = 2 * m := ⟨ns.length / 2, by omega⟩
      -- for k in range(0, len(script), 2)
      refine ⟨_, rfl, a, _, rfl, .inl (s1.seq hS), 0, ((2 * m : Nat) : Int), 2, m, ?_, rgc2 m (by omega), for_rangeC (lo := 0) (c := 2) (n := m) (fun i σ H3 => ∃ y2 y3 y4 hs, σ = [some (.ref a), some (.ref o), y2, y3, y4] ∧ Same H H3 ∧ PL H3 o hs ∧ HX hs ∧ hs.length ≤ i) ⟨none, none, none, [], rfl, s1, ⟨[], upd_same, .nil⟩, .nil, Nat.le_refl _⟩ ?_ ?_⟩
      · rw [List.length_map, hm]
      · rintro i σ H3 hi ⟨y2, y3, y4, hs, rfl, s3, ⟨xs, eo, px⟩, hx, hl⟩
        have hS3 := s3.seq hS
        obtain ⟨z1, _, hz1⟩ := ints_at (ns := ns) (k := 0 + (i : Int) * 2) (by omega) (by omega)
        obtain ⟨z2, _, hz2⟩ := ints_at (ns := ns) (k := 0 + (i : Int) * 2 + 1) (by omega) (by omega)
        have b1 : 0 ≤ z1 / 2 % 10 ^ 40 ∧ z1 / 2 % 10 ^ 40 < 10 ^ 40 := ⟨Int.emod_nonneg _ (by omega), Int.emod_lt_of_pos _ hp40⟩
        have b2 : 0 ≤ z2 % 10 ^ 40 ∧ z2 % 10 ^ 40 < 10 ^ 40 := ⟨Int.emod_nonneg _ (by omega), Int.emod_lt_of_pos _ hp40⟩
        refine ⟨_, rfl, .inl ⟨rfl, _, SqL.of eo⟩, _, rfl, _, rfl, a, _, _, _, rfl, rfl, hS3, hz1, _, _, rfl, rfl, ⟨by decide, by decide⟩, _, _, rfl, rfl, ⟨by decide, by decide, by decide⟩, _, _, rfl, rfl, hp40, _, rfl, _, rfl, a, _, _, _, rfl, rfl, hS3, hz1, _, _, rfl, rfl, (show (0 : Int) < 2 by decide), _, _, rfl, rfl, .inr (by decide), _, _, rfl, rfl, _, _, rfl, rfl, .inr (by constructor <;> omega), _, rfl, _, rfl, _, _, rfl, rfl, a, _, _, _, rfl, rfl, hS3, hz2, _, _, rfl, rfl, ⟨by decide, by decide, by decide⟩, _, _, rfl, rfl, hp40, (by show 2 ≤ sizeLine; decide), fun t nt => ?_⟩
        refine ⟨o, xs, _, rfl, rfl, (same_new nt) _ _ eo, Evl.sz_lt ?_, ?_⟩
        · rw [pr_len px]
          have := hx.len
          omega
        have tp := tp_mut (o := .lst (xs ++ [V.ref t])) ((same_new (o := .tup [.int (z1 / 2 % 10 ^ 40 * (1 - z1 % 2 * 2)), .int (z2 % 10 ^ 40)]) nt) _ _ eo)
        refine ⟨_, _, _, hs ++ [(z1 / 2 % 10 ^ 40 * (1 - z1 % 2 * 2), z2 % 10 ^ 40)], rfl, same_mut (s3.trans (same_new nt)) no, ⟨_, upd_same, pr_snoc ((px.mono (tp_new nt)).mono tp) ⟨t, rfl, tp _ _ upd_same⟩⟩, hx.snoc (by omega) b2.1 ?_ b2.2, ?_⟩
        · have hz : 1 - z1 % 2 * 2 = 1 ∨ 1 - z1 % 2 * 2 = -1 := by omega
          have e : ((10 : Int) ^ 40) = ((10 ^ 40 : Nat) : Int) := by decide +kernel
          rw [e] at b1
          show (z1 / 2 % 10 ^ 40 * (1 - z1 % 2 * 2)).natAbs < 10 ^ 40
          rw [e]
          rcases hz with hz | hz
          · rw [hz, Int.mul_one]
            generalize z1 / 2 % ((10 ^ 40 : Nat) : Int) = y at *
            generalize (10 : Nat) ^ 40 = N at *
            omega
          · rw [hz]
            generalize z1 / 2 % ((10 ^ 40 : Nat) : Int) = y at *
            generalize (10 : Nat) ^ 40 = N at *
            omega
        · rw [List.length_append, List.length_singleton]
          omega
      · rintro σ H3 ⟨y2, y3, y4, hs, rfl, s3, hP, hx, hl⟩
        exact ⟨_, rfl, q hs H3 o hx s3 no hP⟩
    · have menu : ∀ (ms : List Int) (r : Int), ms.length = 4 → (∀ x ∈ ms, 0 < x ∧ x ≤ 1000000) → 0 ≤ r → r < 4 → ∃ z, atI (ms.map V.int) r = some (.int z) ∧ 0 < z ∧ z ≤ 1000000 := fun ms r h4 hp h0 h1 => by
        obtain ⟨z, hz, ha⟩ := ints_at (ns := ms) h0 (by omega)
        exact ⟨z, ha, hp z (List.mem_of_getElem? hz)⟩
      have menu1 := menu [3, 20, 1000000, 5] 
      have menu2 := menu [5, 60, 1000000, 9] 
      -- _law_most
      refine ⟨(by show 4 ≤ sizeLine; decide), fun t1 nt1 => ?_⟩
      have s2 := s1.trans (same_new (o := .tup ([3, 20, 1000000, 5].map V.int)) nt1)
      refine ⟨_, rfl, a, ns, 0, rfl, s2.seq hS, by decide, fun i1 => ⟨i1, 6, 4, rfl, by decide, by decide, fun r1 H2 h0 h1 s3 => ?_⟩⟩
      obtain ⟨most, hm, m0, m1⟩ := menu1 r1 rfl (by decide) h0 h1
      refine ⟨t1, _, r1, _, rfl, rfl, SqT.of (s3 _ _ upd_same), hm, ?_⟩
      have eo2 := s3 _ _ ((same_new nt1) _ _ upd_same)
      have s23 := s2.trans s3
      -- _law_wide
      refine ⟨(by show 4 ≤ sizeLine; decide), fun t2 nt2 => ?_⟩
      have s4 := s23.trans (same_new (o := .tup ([5, 60, 1000000, 9].map V.int)) nt2)
      refine ⟨_, rfl, a, ns, 0 + 1, rfl, s4.seq hS, by decide, fun i2 => ⟨i2, 7, 4, rfl, by decide, by decide, fun r2 H3 h2 h3 s5 => ?_⟩⟩
      obtain ⟨wide, hw, w0, w1⟩ := menu2 r2 rfl (by decide) h2 h3
      refine ⟨t2, _, r2, _, rfl, rfl, SqT.of (s5 _ _ upd_same), hw, ?_⟩
      have eo3 := s5 _ _ ((same_new nt2) _ _ eo2)
      have s45 := s4.trans s5
      -- for k in range(len(script))
      refine ⟨_, rfl, a, _, rfl, .inl (s45.seq hS), (ns.length : Int), ?_, by omega, by omega, ?_⟩
      · rw [List.length_map]
      have en : (ns.length : Int).toNat = ns.length := by omega
      refine for_range (lo := 0) (n := (ns.length : Int).toNat) (fun i σ H3 => ∃ y2 hs, σ = [some (.ref a), some (.ref o), y2, some (.int most), some (.int wide)] ∧ Same H H3 ∧ PL H3 o hs ∧ HX hs ∧ hs.length ≤ i) ⟨none, [], rfl, s45, ⟨[], eo3, .nil⟩, .nil, Nat.le_refl _⟩ ?_ ?_
      · rintro i σ H4 hi ⟨y2, hs, rfl, s6, ⟨xs, eo4, px⟩, hx, hl⟩
        rw [en] at hi
        obtain ⟨z1, _, hz1⟩ := ints_at (ns := ns) (k := 0 + (i : Int)) (by omega) (by omega)
        have hS6 := s6.seq hS
        refine ⟨_, rfl, .inl ⟨rfl, _, SqL.of eo4⟩, _, rfl, _, rfl, a, _, _, _, rfl, rfl, hS6, hz1, _, rfl, _, _, rfl, rfl, (show (0 : Int) < 5 by decide), _, _, rfl, rfl, _, rfl, _, _, _, rfl, by omega, w0, fun d1 H5 p0 p1 s7 => ?_⟩
        refine ⟨_, rfl, _, _, rfl, rfl, ⟨by decide, by decide⟩, _, _, rfl, rfl, ?_⟩
        refine ⟨_, rfl, _, rfl, a, _, _, _, rfl, rfl, s7.seq hS6, hz1, _, rfl, _, _, rfl, rfl, (show (0 : Int) < 7 by decide), _, _, rfl, rfl, _, rfl, _, _, _, rfl, by omega, m0, fun d2 H6 p2 p3 s8 => ?_⟩
        refine ⟨(by show 2 ≤ sizeLine; decide), fun t nt => ?_⟩
        have eo6 := s8 _ _ (s7 _ _ eo4)
        have s9 := same_new (o := .tup [.int (d1 - wide / 2), .int d2]) nt
        refine ⟨o, xs, _, rfl, rfl, s9 _ _ eo6, Evl.sz_lt ?_, ?_⟩
        · rw [pr_len px]
          have := hx.len
          omega
        have tp := tp_mut (o := .lst (xs ++ [V.ref t])) (s9 _ _ eo6)
        refine ⟨_, hs ++ [(d1 - wide / 2, d2)], rfl, same_mut (((s6.trans s7).trans s8).trans s9) no, ⟨_, upd_same, pr_snoc ((((px.mono (same_tp s7)).mono (same_tp s8)).mono (same_tp s9)).mono tp) ⟨t, rfl, tp _ _ upd_same⟩⟩, hx.snoc (by omega) p2 ?_ ?_, ?_⟩
        · have e : (10 : Nat) ^ 40 = 10000000000000000000000000000000000000000 := by decide +kernel
          show (d1 - wide / 2).natAbs < 10 ^ 40
          rw [e]
          omega
        · have e : (10 : Int) ^ 40 = 10000000000000000000000000000000000000000 := by decide +kernel
          show d2 < 10 ^ 40
          rw [e]
          omega
        · rw [List.length_append, List.length_singleton]
          omega
      · rintro σ H4 ⟨y2, hs, rfl, s6, hP, hx, hl⟩
        exact ⟨_, rfl, q hs H4 o hx s6 no hP⟩
end
end Wk
/-! the walk, part P: readings that evaluate to pairs, to lists of pairs -/
namespace Wk
open PySem PySem.Spec PyProof.Rows L2 Spr
theorem eqv_pairs : ∀ l m : List I2, PyData.eqv (.list (l.map pairD)) (.list (m.map pairD)) = decide (l = m)
  | [], [] => by
    show PyData.eqvAll [] [] = _
    rw [PyData.eqvAll]; rfl
  | [], b :: m => by
    show PyData.eqvAll [] (pairD b :: m.map pairD) = _
    rw [PyData.eqvAll]; rfl
  | a :: l, [] => by
    show PyData.eqvAll (pairD a :: l.map pairD) [] = _
    rw [PyData.eqvAll]; rfl
  | a :: l, b :: m => by
    have ih := eqv_pairs l m
    have ih2 : PyData.eqvAll (l.map pairD) (m.map pairD) = decide (l = m) := ih
    have e1 : PyData.eqv (pairD a) (pairD b) = decide (a = b) := by
      show PyData.eqvAll [.int a.1, .int a.2] [.int b.1, .int b.2] = _
      rw [PyData.eqvAll, PyData.eqvAll, PyData.eqvAll]
      show ((a.1 == b.1) && ((a.2 == b.2) && true)) = _
      obtain ⟨a1, a2⟩ := a
      obtain ⟨b1, b2⟩ := b
      by_cases h1 : a1 = b1 <;> by_cases h2 : a2 = b2 <;> simp [h1, h2]
    show PyData.eqvAll (pairD a :: l.map pairD) (pairD b :: m.map pairD) = _
    rw [PyData.eqvAll, e1, ih2]
    by_cases h1 : a = b <;> by_cases h2 : l = m <;> simp [h1, h2]
theorem HB.all {hs : List I2} (h : HB hs) : (hs.map pairD).all isHeapD = true := by
  rw [List.all_map, List.all_eq_true]
  intro x m
  exact decide_eq_true (h.pos x m)
section
variable {K : PySem.W.Frag} {σ : L2.St} {H : Hp} {te ta tb : TE} {ti : TE} {tr : TA}
/-- a pair of ints -/
def EvP (te : TE) (σ : L2.St) (H : Hp) (x : I2) : Prop := ∀ H1, Same H H1 → ∀ Q : VK, (∀ v H2, Same H1 H2 → PT H2 v x → Q v H2) → te σ H1 Q
/-- pairs of ints, one by one -/
def EvPs (tr : TA) (σ : L2.St) (H : Hp) (m : List I2) : Prop := ∀ H1, Same H H1 → ∀ Q : List V → Hp → Prop, (∀ vs H2, Same H1 H2 → PTs H2 vs m → Q vs H2) → tr σ H1 Q
/-- a list of pairs; a new one -/
def EvQ (te : TE) (σ : L2.St) (H : Hp) (m : List I2) : Prop := ∀ H1, Same H H1 → ∀ Q : VK, (∀ p H2, Same H1 H2 → PL H2 p m → Q (.ref p) H2) → te σ H1 Q
def EvN (te : TE) (σ : L2.St) (H : Hp) (m : List I2) : Prop := ∀ H1, Same H H1 → ∀ Q : VK, (∀ p H2, H1 p = none → Same H1 H2 → PL H2 p m → Q (.ref p) H2) → te σ H1 Q
theorem EvN.q {m : List I2} (h : EvN te σ H m) : EvQ te σ H m := fun H1 s Q k => h H1 s Q fun p H2 _ s2 hp => k p H2 s2 hp
theorem evp_var {i : Nat} {v : V} {x : I2} (h : σ[i]? = some (some v)) (p : PT H v x) : EvP (tVar i) σ H x := fun H1 s Q k => ⟨v, h, k v H1 (Same.refl H1) (p.mono (same_tp s))⟩
theorem evp_tup {a b : Int} (h1 : Evl.Ev ta σ H (.int a)) (h2 : Evl.Ev tb σ H (.int b)) : EvP (tTup (tCons ta (tCons tb tNil))) σ H (a, b) := fun H1 s Q k =>
  h1 H1 s _ fun H2 s2 => h2 H2 (Same.trans s s2) _ fun H3 s3 => ⟨(by show 2 ≤ sizeLine; decide), fun t nt => k _ _ (Same.trans (Same.trans s2 s3) (same_new nt)) ⟨t, rfl, upd_same⟩⟩
theorem evps_nil : EvPs tNil σ H [] := fun H1 s Q k => k [] H1 (Same.refl H1) .nil
theorem evps_cons {x : I2} {m : List I2} (h1 : EvP te σ H x) (h2 : EvPs tr σ H m) : EvPs (tCons te tr) σ H (x :: m) := fun H1 s Q k =>
  h1 H1 s _ fun v H2 s2 p => h2 H2 (Same.trans s s2) _ fun vs H3 s3 ps => k _ H3 (Same.trans s2 s3) (.cons (p.mono (same_tp s3)) ps)
theorem evn_disp {m : List I2} (h : EvPs tr σ H m) (hl : m.length ≤ 1000) : EvN (tLst tr) σ H m := fun H1 s Q k =>
  h H1 s _ fun vs H2 s2 ps => ⟨by rw [pr_len ps]; exact Evl.sz_of (by omega), fun p np => k p _ (Same.free s2 np) (Same.trans s2 (same_new np)) ⟨vs, upd_same, ps.mono (tp_new np)⟩⟩
theorem evq_var {i : Nat} {a : Addr} {m : List I2} (h : σ[i]? = some (some (.ref a))) (p : PL H a m) : EvQ (tVar i) σ H m := fun H1 s Q k => ⟨.ref a, h, k a H1 (Same.refl H1) (p.mono s)⟩
def cutI (m : List I2) (lo hi : Option Int) : List I2 := (m.drop (HT.sIx m.length 0 lo)).take (HT.sIx m.length m.length hi - HT.sIx m.length 0 lo)
theorem PTs.cut {xs : List V} {m : List I2} (p : PTs H xs m) (lo hi : Option Int) : PTs H (cutV xs lo hi) (cutI m lo hi) := by
  unfold cutV cutI
  rw [pr_len p]
  exact pr_take _ (pr_drop _ p)
theorem cutI_len (m : List I2) (lo hi : Option Int) : (cutI m lo hi).length ≤ m.length := by
  unfold cutI
  rw [List.length_take, List.length_drop]
  omega
theorem cutI_mem {m : List I2} {lo hi : Option Int} {x : I2} (h : x ∈ cutI m lo hi) : x ∈ m := List.mem_of_mem_drop (List.mem_of_mem_take h)
theorem evn_sl {tl th : TO} {m : List I2} {lo hi : Option Int} (h : EvQ te σ H m) (h1 : Evl.EvO tl σ H lo) (h2 : Evl.EvO th σ H hi) : EvN (tSl (rSlL K) te tl th) σ H (cutI m lo hi) := fun H1 s Q k =>
  h H1 s _ fun a H2 s2 hp => h1 H2 (Same.trans s s2) _ fun H3 s3 => h2 H3 (Same.trans (Same.trans s s2) s3) _ fun H4 s4 => by
    obtain ⟨xs, e, ps⟩ := hp.mono (Same.trans s3 s4)
    have s14 : Same H1 H4 := Same.trans (Same.trans s2 s3) s4
    exact ⟨a, xs, rfl, SqL.of e, fun p np => k p _ (Same.free s14 np) (Same.trans s14 (same_new np)) ⟨_, upd_same, (ps.cut lo hi).mono (tp_new np)⟩⟩
theorem evn_cat {a b : List I2} (h1 : EvQ ta σ H a) (h2 : EvQ tb σ H b) (hl : a.length + b.length ≤ 100000) : EvN (tOp rCat ta tb) σ H (a ++ b) := fun H1 s Q k =>
  h1 H1 s _ fun p1 H2 s2 hp1 => h2 H2 (Same.trans s s2) _ fun p2 H3 s3 hp2 => by
    obtain ⟨xs, e1, ps⟩ := hp1.mono s3
    obtain ⟨ys, e2, qs⟩ := hp2
    have s13 : Same H1 H3 := Same.trans s2 s3
    exact ⟨p1, p2, xs, ys, rfl, rfl, e1, e2, Evl.sz_of (by rw [pr_len ps, pr_len qs]; exact hl), fun p np => k p _ (Same.free s13 np) (Same.trans s13 (same_new np)) ⟨_, upd_same, PTs.mono (tp_new np) (pr_app ps qs)⟩⟩
theorem evn_rev {m : List I2} (h : EvQ te σ H m) : EvN (tRevL K te) σ H m.reverse := fun H1 s Q k =>
  h H1 s _ fun a H2 s2 hp => by
    obtain ⟨xs, e, ps⟩ := hp
    exact ⟨a, xs, rfl, SqL.of e, fun p np => k p _ (Same.free s2 np) (Same.trans s2 (same_new np)) ⟨_, upd_same, PTs.mono (tp_new np) (pr_rev ps)⟩⟩
theorem evn_list {m : List I2} (h : EvQ te σ H m) : EvN (tCB (fun xs H Q => ∃ p ys, xs = [.ref p] ∧ (SqL K H p ys ∨ SqT K H p ys) ∧ ∀ l, H l = none → Q (.ref l) (upd H l (.lst ys))) (tCons te tNil)) σ H m := fun H1 s Q k =>
  h H1 s _ fun a H2 s2 hp => by
    obtain ⟨xs, e, ps⟩ := hp
    exact ⟨a, xs, rfl, .inl (SqL.of e), fun p np => k p _ (Same.free s2 np) (Same.trans s2 (same_new np)) ⟨_, upd_same, ps.mono (tp_new np)⟩⟩
theorem ev_lenQ {m : List I2} (h : EvQ te σ H m) : Evl.Ev (tCB (fun xs H Q => ∃ p ys, xs = [.ref p] ∧ (SqL K H p ys ∨ SqT K H p ys) ∧ Q (.int ys.length) H) (tCons te tNil)) σ H (.int (m.length : Int)) := fun H1 s Q k =>
  h H1 s _ fun a H2 s2 hp => by
    obtain ⟨xs, e, ps⟩ := hp
    refine ⟨a, xs, rfl, .inl (SqL.of e), ?_⟩
    rw [pr_len ps]
    exact k H2 s2
theorem ev_eqQ {a b : List I2} (h1 : EvQ ta σ H a) (h2 : EvQ tb σ H b) : Evl.Ev (tOp (rEqD K) ta tb) σ H (.bl (decide (a = b))) := fun H1 s Q k =>
  h1 H1 s _ fun p1 H2 s2 hp1 => h2 H2 (Same.trans s s2) _ fun p2 H3 s3 hp2 =>
    ⟨_, _, PL.dp (hp1.mono s3), PL.dp hp2, shaped_map pairD_lay _, shaped_map pairD_lay _, by rw [eqv_pairs]; exact k H3 (Same.trans s2 s3)⟩
theorem ev_neQ {a b : List I2} (h1 : EvQ ta σ H a) (h2 : EvQ tb σ H b) : Evl.Ev (tOp (rNeD K) ta tb) σ H (.bl (!decide (a = b))) := fun H1 s Q k =>
  h1 H1 s _ fun p1 H2 s2 hp1 => h2 H2 (Same.trans s s2) _ fun p2 H3 s3 hp2 =>
    ⟨_, _, PL.dp (hp1.mono s3), PL.dp hp2, shaped_map pairD_lay _, shaped_map pairD_lay _, by rw [eqv_pairs]; exact k H3 (Same.trans s2 s3)⟩
theorem evp_ix {m : List I2} {i : Int} {x : I2} (h1 : EvQ ta σ H m) (h2 : Evl.Ev tb σ H (.int i)) (hx : atI m i = some x) : EvP (tOp (rIxL K) ta tb) σ H x := fun H1 s Q k =>
  h1 H1 s _ fun p1 H2 s2 hp1 => h2 H2 (Same.trans s s2) _ fun H3 s3 => by
    obtain ⟨xs, e, ps⟩ := hp1.mono s3
    obtain ⟨j, h3, h4, _⟩ := atI_get hx
    obtain ⟨v, hv, pv⟩ := pr_get2 ps h4
    refine ⟨p1, xs, i, v, rfl, rfl, SqL.of e, ?_, k v H3 (Same.trans s2 s3) pv⟩
    unfold atI at hx ⊢
    rw [pr_len ps]
    cases e2 : ixN m.length i with
    | none => rw [e2] at hx; cases hx
    | some j2 =>
      rw [e2] at hx
      have h5 : m[j2]? = some x := hx
      obtain ⟨v2, hv2, _⟩ := pr_get2 ps h5
      have : j2 = j := by
        have := (ixN_seq e2).1
        rw [h3] at this
        exact (Option.some.inj this).symm
      subst this
      exact hv
theorem ev_fst {x : I2} (h : EvP te σ H x) : Evl.Ev (tOp (rIxT K) te (tC (.int 0))) σ H (.int x.1) := fun H1 s Q k =>
  h H1 s _ fun v H2 s2 pv => by
    obtain ⟨t, rfl, e⟩ := pv
    exact ⟨t, _, 0, _, rfl, rfl, SqT.of e, atI_nat (j := 0) rfl, k H2 s2⟩
theorem ev_snd {x : I2} (h : EvP te σ H x) : Evl.Ev (tOp (rIxT K) te (tC (.int 1))) σ H (.int x.2) := fun H1 s Q k =>
  h H1 s _ fun v H2 s2 pv => by
    obtain ⟨t, rfl, e⟩ := pv
    exact ⟨t, _, 1, _, rfl, rfl, SqT.of e, atI_nat (j := 1) rfl, k H2 s2⟩
theorem EvP.mono {H' : Hp} {x : I2} (s : Same H H') (h : EvP te σ H x) : EvP te σ H' x := fun H1 s1 => h H1 (Same.trans s s1)
theorem EvQ.mono {H' : Hp} {m : List I2} (s : Same H H') (h : EvQ te σ H m) : EvQ te σ H' m := fun H1 s1 => h H1 (Same.trans s s1)
theorem EvN.mono {H' : Hp} {m : List I2} (s : Same H H') (h : EvN te σ H m) : EvN te σ H' m := fun H1 s1 => h H1 (Same.trans s s1)
/-- a, b = a pair -/
theorem asg_pair {D : Ends} {i j : Nat} {x : I2} (h : EvP te σ H x) (k : ∀ H1, Same H H1 → D.nx ((σ.set i (some (.int x.1))).set j (some (.int x.2))) H1) : tAsg te (gTup K 2 (gCons (gName i) (gCons (gName j) gNil))) D σ H :=
  h H (Same.refl H) _ fun v H1 s1 pv => by
    obtain ⟨t, rfl, e⟩ := pv
    exact ⟨t, _, rfl, SqT.of e, rfl, _, _, rfl, _, _, rfl, rfl, k H1 s1⟩
theorem asg_q {D : Ends} {i : Nat} {m : List I2} (h : EvQ te σ H m) (k : ∀ p H1, Same H H1 → PL H1 p m → D.nx (σ.set i (some (.ref p))) H1) : tAsg te (gName i) D σ H :=
  h H (Same.refl H) _ fun p H1 s1 hp => k p H1 s1 hp
theorem asg_n {D : Ends} {i : Nat} {m : List I2} (h : EvN te σ H m) (k : ∀ p H1, H p = none → Same H H1 → PL H1 p m → D.nx (σ.set i (some (.ref p))) H1) : tAsg te (gName i) D σ H :=
  h H (Same.refl H) _ fun p H1 np s1 hp => k p H1 np s1 hp
theorem asg_p {D : Ends} {i : Nat} {x : I2} (h : EvP te σ H x) (k : ∀ v H1, Same H H1 → PT H1 v x → D.nx (σ.set i (some v)) H1) : tAsg te (gName i) D σ H :=
  h H (Same.refl H) _ fun p H1 s1 hp => k p H1 s1 hp
theorem asg_i {D : Ends} {i : Nat} {v : V} (h : Evl.Ev te σ H v) (k : ∀ H1, Same H H1 → D.nx (σ.set i (some v)) H1) : tAsg te (gName i) D σ H :=
  h H (Same.refl H) _ fun H1 s1 => k H1 s1
theorem ret_n {D : Ends} {m : List I2} (h : EvN te σ H m) (k : ∀ p H1, H p = none → Same H H1 → PL H1 p m → D.rt (.ref p) H1) : tRet te D σ H :=
  h H (Same.refl H) _ fun p H1 np s1 hp => k p H1 np s1 hp
theorem ret_v {D : Ends} {v : V} (h : Evl.Ev te σ H v) (k : ∀ H1, Same H H1 → D.rt v H1) : tRet te D σ H :=
  h H (Same.refl H) _ fun H1 s1 => k H1 s1
/-- a test that is known by cases -/
theorem if_t {D : Ends} {t : TT} {tu tw : TS} {c : Prop} [Decidable c] (h : Evl.EvT t σ H (decide c)) (h1 : c → ∀ H1, Same H H1 → tu D σ H1) (h2 : ¬ c → ∀ H1, Same H H1 → tw D σ H1) : tIfS t tu tw D σ H :=
  h H (Same.refl H) _ fun H1 s1 => by
    by_cases e : c
    · rw [decide_eq_true e]
      exact iteT (h1 e H1 s1)
    · rw [decide_eq_false e]
      exact iteF (h2 e H1 s1)
theorem if_b {D : Ends} {t : TT} {tu tw : TS} {b : Bool} (h : Evl.EvT t σ H b) (h1 : b = true → ∀ H1, Same H H1 → tu D σ H1) (h2 : b = false → ∀ H1, Same H H1 → tw D σ H1) : tIfS t tu tw D σ H :=
  h H (Same.refl H) _ fun H1 s1 => by
    cases b with
    | true => exact iteT (h1 rfl H1 s1)
    | false => exact iteF (h2 rfl H1 s1)
/-! the same, something behind -/
variable {tz : TS}
theorem nx_mk {f : L2.St → Hp → Prop} {r : VK} {b c : L2.St → Hp → Prop} (h : f σ H) : (Ends.mk f r b c).nx σ H := h
theorem q_pair {D : Ends} {i j : Nat} {x : I2} (h : EvP te σ H x) (k : ∀ H1, Same H H1 → tz D ((σ.set i (some (.int x.1))).set j (some (.int x.2))) H1) : tSeq (tAsg te (gTup K 2 (gCons (gName i) (gCons (gName j) gNil)))) tz D σ H := asg_pair (D := { D with nx := tz D }) h k
theorem q_q {D : Ends} {i : Nat} {m : List I2} (h : EvQ te σ H m) (k : ∀ p H1, Same H H1 → PL H1 p m → tz D (σ.set i (some (.ref p))) H1) : tSeq (tAsg te (gName i)) tz D σ H := asg_q (D := { D with nx := tz D }) h k
theorem q_n {D : Ends} {i : Nat} {m : List I2} (h : EvN te σ H m) (k : ∀ p H1, H p = none → Same H H1 → PL H1 p m → tz D (σ.set i (some (.ref p))) H1) : tSeq (tAsg te (gName i)) tz D σ H := asg_n (D := { D with nx := tz D }) h k
theorem q_p {D : Ends} {i : Nat} {x : I2} (h : EvP te σ H x) (k : ∀ v H1, Same H H1 → PT H1 v x → tz D (σ.set i (some v)) H1) : tSeq (tAsg te (gName i)) tz D σ H := asg_p (D := { D with nx := tz D }) h k
theorem q_i {D : Ends} {i : Nat} {v : V} (h : Evl.Ev te σ H v) (k : ∀ H1, Same H H1 → tz D (σ.set i (some v)) H1) : tSeq (tAsg te (gName i)) tz D σ H := asg_i (D := { D with nx := tz D }) h k
theorem q_if {D : Ends} {t : TT} {tu tw : TS} {c : Prop} [Decidable c] (h : Evl.EvT t σ H (decide c)) (h1 : c → ∀ H1, Same H H1 → tu { D with nx := tz D } σ H1) (h2 : ¬ c → ∀ H1, Same H H1 → tw { D with nx := tz D } σ H1) : tSeq (tIfS t tu tw) tz D σ H := if_t (D := { D with nx := tz D }) h h1 h2
theorem q_ifb {D : Ends} {t : TT} {tu tw : TS} {b : Bool} (h : Evl.EvT t σ H b) (h1 : b = true → ∀ H1, Same H H1 → tu { D with nx := tz D } σ H1) (h2 : b = false → ∀ H1, Same H H1 → tw { D with nx := tz D } σ H1) : tSeq (tIfS t tu tw) tz D σ H := if_b (D := { D with nx := tz D }) h h1 h2
/-- an if without else -/
theorem q_when {D : Ends} {t : TT} {tu : TS} {c : Prop} [Decidable c] (h : Evl.EvT t σ H (decide c)) (h1 : c → ∀ H1, Same H H1 → tu { D with nx := tz D } σ H1) (h2 : ¬ c → ∀ H1, Same H H1 → tz D σ H1) : tSeq (tIfS t tu tNext) tz D σ H := if_t (D := { D with nx := tz D }) h h1 h2
theorem q_whenb {D : Ends} {t : TT} {tu : TS} {b : Bool} (h : Evl.EvT t σ H b) (h1 : b = true → ∀ H1, Same H H1 → tu { D with nx := tz D } σ H1) (h2 : b = false → ∀ H1, Same H H1 → tz D σ H1) : tSeq (tIfS t tu tNext) tz D σ H := if_b (D := { D with nx := tz D }) h h1 h2
end
theorem rv_eqI {H : Hp} {i j : Int} : Evl.RV rEq (.int i) (.int j) H (.bl (decide (i = j))) := fun H1 _ _ q => ⟨rfl, by
  have e : decide (V.int i = V.int j) = decide (i = j) := by
    by_cases h : i = j
    · rw [decide_eq_true h, decide_eq_true (congrArg V.int h)]
    · rw [decide_eq_false h, decide_eq_false fun z => h (V.int.inj z)]
  rw [e]
  exact q H1 (Evl.Ex.refl H1)⟩
theorem rv_neI {H : Hp} {i j : Int} : Evl.RV rNe (.int i) (.int j) H (.bl (!decide (i = j))) := fun H1 _ _ q => ⟨rfl, by
  have e : decide (V.int i = V.int j) = decide (i = j) := by
    by_cases h : i = j
    · rw [decide_eq_true h, decide_eq_true (congrArg V.int h)]
    · rw [decide_eq_false h, decide_eq_false fun z => h (V.int.inj z)]
  rw [e]
  exact q H1 (Evl.Ex.refl H1)⟩
theorem rv_isB {H : Hp} {a b : Bool} : Evl.RV rIsB (.bl a) (.bl b) H (.bl (decide (a = b))) := fun H1 _ _ q => ⟨a, b, rfl, rfl, q H1 (Evl.Ex.refl H1)⟩
theorem rv_notB {H : Hp} {a b : Bool} : Evl.RV rNotB (.bl a) (.bl b) H (.bl (!decide (a = b))) := fun H1 _ _ q => ⟨a, b, rfl, rfl, q H1 (Evl.Ex.refl H1)⟩
theorem rv_neB {H : Hp} {a b : Bool} : Evl.RV rNe (.bl a) (.bl b) H (.bl (!decide (a = b))) := fun H1 _ _ q => ⟨rfl, by
  have e : decide (V.bl a = V.bl b) = decide (a = b) := by cases a <;> cases b <;> decide
  rw [e]
  exact q H1 (Evl.Ex.refl H1)⟩
theorem stretches_one (x : I2) : stretches [x] = (((clusS [x]).reverse.flatMap parts).foldl joinp []).reverse := by
  have e : srt [x] = [x] := (srt_of (List.Perm.refl _) (List.pairwise_singleton _ _)).symm
  unfold stretches clus
  rw [e]
theorem stretches_nil : stretches [] = [] := by
  have e : srt [] = [] := (srt_of (List.Perm.refl _) .nil).symm
  unfold stretches clus
  rw [e]
  rfl
theorem HB.small {hs : List I2} (h : (decide (hs.length ≤ 1000) && hs.all fun h => decide (0 ≤ h.2) && decide (h.1.natAbs < 1000000) && decide (h.2.natAbs < 1000000)) = true) : HB hs := by
  rw [Bool.and_eq_true, decide_eq_true_iff, List.all_eq_true] at h
  obtain ⟨h1, h2⟩ := h
  have z : 1000000 < (2 : Nat) ^ 200 := by decide +kernel
  refine ⟨h1, fun x m => ?_, fun x m => ?_, fun x m => ?_⟩ <;>
  · have q := h2 x m
    rw [Bool.and_eq_true, Bool.and_eq_true, decide_eq_true_iff, decide_eq_true_iff, decide_eq_true_iff] at q
    first
      | exact q.1.1
      | exact Nat.lt_trans q.1.2 z
      | exact Nat.lt_trans q.2 z
end Wk
/-! the walk, part Q: comprehensions over lists of pairs, sorted, sum, any, all -/
namespace Wk
open PySem PySem.Spec PyProof.Rows L2 Spr
section
variable {K : PySem.W.Frag} {σ : L2.St} {H : Hp} {te ta tb tl : TE} {t : TT}
/-- the slots of a turn of a comprehension whose target is a pair -/
abbrev s2 (σ : L2.St) (vs : List Nat) (i j : Nat) (x : I2) : L2.St := ((wipe σ vs).set i (some (.int x.1))).set j (some (.int x.2))
/-- [e for a, b in pairs if t] -/
theorem el_lcP {m : List I2} {i j : Nat} {vs : List Nat} (f : I2 → Bool) (v : I2 → V) (h : EvQ tl σ H m) (hm : m.length ≤ 40000) (hw : ∀ a b, wipe (((wipe σ vs).set i a).set j b) vs = wipe σ vs)
    (ht : ∀ x ∈ m, Evl.EvT t (s2 σ vs i j x) H (f x)) (he : ∀ x ∈ m, f x = true → Evl.Ev te (s2 σ vs i j x) H (v x)) :
    Evl.EvL (tLc (iList K tl) (gTup K 2 (gCons (gName i) (gCons (gName j) gNil))) t te vs) σ H ((m.filter f).map v) := fun H0 s0 Q q =>
  h H0 s0 _ fun a H1 s1 ha => by
    obtain ⟨xs, ea, px⟩ := ha
    refine ⟨a, rfl, ⟨xs, SqL.of ea⟩, fun D nD => ?_⟩
    refine lc_list (K := K) (a := a) (xs := xs) (fun k H' => Same H1 H' ∧ H' D = some (.lst (((m.take k).filter f).map v))) ⟨same_new nD, upd_same⟩ (fun k H' _ p => SqL.of (p.1 _ _ ea)) ?_ ?_
    · rintro k x H' hk ⟨s2', e2⟩
      obtain ⟨y, hy, tt, rfl, et⟩ := pr_get px hk
      have my : y ∈ m := List.mem_of_getElem? hy
      have hkl : k < m.length := (List.getElem?_eq_some_iff.mp hy).1
      refine ⟨tt, _, rfl, SqT.of (s2' _ _ et), rfl, _, _, rfl, _, _, rfl, rfl, hw _ _, ?_⟩
      refine ht y my H' (Same.trans (Same.trans s0 s1) s2') _ fun H3 s3 => ?_
      rw [take_snoc hy, List.filter_append, List.map_append]
      cases hf : f y with
      | false =>
        refine iteF ⟨Same.trans s2' s3, ?_⟩
        rw [List.filter_cons_of_neg (by rw [hf]; decide), List.filter_nil, List.map_nil, List.append_nil]
        exact s3 _ _ e2
      | true =>
        refine iteT ?_
        refine he y my hf H3 (Same.trans (Same.trans (Same.trans s0 s1) s2') s3) _ fun H4 s4 => ?_
        refine ⟨_, s4 _ _ (s3 _ _ e2), ?_, same_mut (Same.trans s2' (Same.trans s3 s4)) nD, ?_⟩
        · rw [List.length_map]
          have := List.length_filter_le f (m.take k)
          rw [List.length_take] at this
          exact Evl.sz_lt (by omega)
        · rw [upd_same, List.filter_cons_of_pos hf, List.filter_nil]
          rfl
    · rintro H' ⟨s2', e2⟩
      rw [pr_len px, List.take_length] at e2
      exact q D H' (Same.free s1 nD) (Same.trans s1 s2') e2
/-- the same, the items pairs -/
theorem evn_lcP {m : List I2} {i j : Nat} {vs : List Nat} (f : I2 → Bool) (v : I2 → I2) (h : EvQ tl σ H m) (hm : m.length ≤ 40000) (hw : ∀ a b, wipe (((wipe σ vs).set i a).set j b) vs = wipe σ vs)
    (ht : ∀ x ∈ m, Evl.EvT t (s2 σ vs i j x) H (f x)) (he : ∀ x ∈ m, f x = true → EvP te (s2 σ vs i j x) H (v x)) :
    EvN (tLc (iList K tl) (gTup K 2 (gCons (gName i) (gCons (gName j) gNil))) t te vs) σ H ((m.filter f).map v) := fun H0 s0 Q q =>
  h H0 s0 _ fun a H1 s1 ha => by
    obtain ⟨xs, ea, px⟩ := ha
    refine ⟨a, rfl, ⟨xs, SqL.of ea⟩, fun D nD => ?_⟩
    refine lc_list (K := K) (a := a) (xs := xs) (fun k H' => Same H1 H' ∧ PL H' D (((m.take k).filter f).map v)) ⟨same_new nD, ⟨[], upd_same, .nil⟩⟩ (fun k H' _ p => SqL.of (p.1 _ _ ea)) ?_ ?_
    · rintro k x H' hk ⟨s2', e2⟩
      obtain ⟨y, hy, tt, rfl, et⟩ := pr_get px hk
      have my : y ∈ m := List.mem_of_getElem? hy
      have hkl : k < m.length := (List.getElem?_eq_some_iff.mp hy).1
      refine ⟨tt, _, rfl, SqT.of (s2' _ _ et), rfl, _, _, rfl, _, _, rfl, rfl, hw _ _, ?_⟩
      refine ht y my H' (Same.trans (Same.trans s0 s1) s2') _ fun H3 s3 => ?_
      rw [take_snoc hy, List.filter_append, List.map_append]
      cases hf : f y with
      | false =>
        refine iteF ⟨Same.trans s2' s3, ?_⟩
        rw [List.filter_cons_of_neg (by rw [hf]; decide), List.filter_nil, List.map_nil, List.append_nil]
        exact e2.mono s3
      | true =>
        refine iteT ?_
        refine he y my hf H3 (Same.trans (Same.trans (Same.trans s0 s1) s2') s3) _ fun w H4 s4 pw => ?_
        obtain ⟨zs, ez, pz⟩ := e2.mono (Same.trans s3 s4)
        refine ⟨_, ez, ?_, same_mut (Same.trans s2' (Same.trans s3 s4)) nD, ⟨_, upd_same, ?_⟩⟩
        · rw [pr_len pz, List.length_map]
          have := List.length_filter_le f (m.take k)
          rw [List.length_take] at this
          exact Evl.sz_lt (by omega)
        · rw [List.filter_cons_of_pos hf, List.filter_nil]
          exact pr_snoc (PTs.mono (tp_mut ez) pz) (PT.mono (tp_mut ez) pw)
    · rintro H' ⟨s2', e2⟩
      rw [pr_len px, List.take_length] at e2
      exact q D H' (Same.free s1 nD) (Same.trans s1 s2') e2
theorem et_yes : Evl.EvT tYes σ H true := fun H1 _ _ q => q H1 (Evl.Ex.refl H1)
/-- without a test -/
theorem el_lcP0 {m : List I2} {i j : Nat} {vs : List Nat} (v : I2 → V) (h : EvQ tl σ H m) (hm : m.length ≤ 40000) (hw : ∀ a b, wipe (((wipe σ vs).set i a).set j b) vs = wipe σ vs)
    (he : ∀ x ∈ m, Evl.Ev te (s2 σ vs i j x) H (v x)) : Evl.EvL (tLc (iList K tl) (gTup K 2 (gCons (gName i) (gCons (gName j) gNil))) tYes te vs) σ H (m.map v) := by
  have := el_lcP (K := K) (t := tYes) (te := te) (fun _ => true) v h hm hw (fun x _ => et_yes) (fun x mx _ => he x mx)
  rw [List.filter_eq_self.mpr (fun _ _ => rfl)] at this
  exact this
theorem evn_lcP0 {m : List I2} {i j : Nat} {vs : List Nat} (v : I2 → I2) (h : EvQ tl σ H m) (hm : m.length ≤ 40000) (hw : ∀ a b, wipe (((wipe σ vs).set i a).set j b) vs = wipe σ vs)
    (he : ∀ x ∈ m, EvP te (s2 σ vs i j x) H (v x)) : EvN (tLc (iList K tl) (gTup K 2 (gCons (gName i) (gCons (gName j) gNil))) tYes te vs) σ H (m.map v) := by
  have := evn_lcP (K := K) (t := tYes) (te := te) (fun _ => true) v h hm hw (fun x _ => et_yes) (fun x mx _ => he x mx)
  rw [List.filter_eq_self.mpr (fun _ _ => rfl)] at this
  exact this
theorem evn_sorted {m : List I2} (h : EvQ te σ H m) : EvN (tCB (rSortedPO K) (tCons te tNil)) σ H (srt m) := fun H0 s0 Q q =>
  h H0 s0 _ fun a H1 s1 ha => by
    obtain ⟨xs, ea, px⟩ := ha
    refine ⟨a, xs, kOf H1, rfl, SqL.of ea, fun x m => ?_, fun ys p h1 h2 np => ?_⟩
    · obtain ⟨h, _, r⟩ := pr_mem px m
      exact r.tup
    · exact q p _ (Same.free s1 np) (Same.trans s1 (same_new np)) ⟨ys, upd_same, (sorted_is px h1 h2).mono (tp_new np)⟩
theorem ev_sumL {ns : List Int} (h : Evl.EvL te σ H (ns.map V.int)) : Evl.Ev (tCB (rSum K) (tCons te tNil)) σ H (.int ns.sum) := fun H0 s0 Q q =>
  h H0 s0 _ fun p H1 _ s1 hp => ⟨p, ns, rfl, SqL.of hp, q H1 s1⟩
theorem ev_anyL {bs : List Bool} (h : Evl.EvL te σ H (bs.map V.bl)) : Evl.Ev (tCB (rAny K) (tCons te tNil)) σ H (.bl (bs.any id)) := fun H0 s0 Q q =>
  h H0 s0 _ fun p H1 _ s1 hp => ⟨p, bs, rfl, SqL.of hp, q H1 s1⟩
theorem ev_allL {bs : List Bool} (h : Evl.EvL te σ H (bs.map V.bl)) : Evl.Ev (tCB (rAll K) (tCons te tNil)) σ H (.bl (bs.all id)) := fun H0 s0 Q q =>
  h H0 s0 _ fun p H1 _ s1 hp => ⟨p, bs, rfl, SqL.of hp, q H1 s1⟩
theorem ev_intB {b : Bool} (h : Evl.Ev te σ H (.bl b)) : Evl.Ev (tCB (fun xs H Q => (∃ i, xs = [.int i] ∧ Q (.int i) H) ∨ ∃ k, xs = [.bl k] ∧ Q (.int (if k then 1 else 0)) H) (tCons te tNil)) σ H (.int (if b then 1 else 0)) := fun H0 s0 Q q =>
  h H0 s0 _ fun H1 s1 => .inr ⟨b, rfl, q H1 s1⟩
/-- a <= b <= c -/
theorem ev_chain {a b c : Int} {tc : TE} (h1 : Evl.Ev ta σ H (.int a)) (h2 : Evl.Ev tb σ H (.int b)) (h3 : Evl.Ev tc σ H (.int c)) :
    Evl.Ev (tChain (rI0 fun i j => .bl (decide (i ≤ j))) (rI0 fun i j => .bl (decide (i ≤ j))) ta tb tc) σ H (.bl (decide (a ≤ b) && decide (b ≤ c))) := fun H0 s0 Q q =>
  h1 H0 s0 _ fun H1 s1 => h2 H1 (Same.trans s0 s1) _ fun H2 s2 => ⟨a, b, rfl, rfl, decide (a ≤ b), rfl, by
    generalize decide (a ≤ b) = d at q ⊢
    cases d with
    | false => exact iteF (q H2 (Same.trans s1 s2))
    | true =>
      refine iteT ?_
      exact h3 H2 (Same.trans (Same.trans s0 s1) s2) _ fun H3 s3 => ⟨b, c, rfl, rfl, q H3 (Same.trans (Same.trans s1 s2) s3)⟩⟩
theorem evn_str {hs : List I2} (h : EvQ ta σ H hs) (hb : HB hs) : EvN (tCall spStr [] C8.E0 (tCons ta tNil)) σ H (stretches hs) := fun H0 s0 Q q =>
  h H0 s0 _ fun a H1 s1 ha => ⟨a, hs, rfl, ha, hb, fun H2 p s2 np hp => q p H2 (Same.free s1 np) (Same.trans s1 s2) hp⟩
/-- xs[i] = a pair -/
theorem q_setP {D : Ends} {tz : TS} {l : Addr} {m : List I2} {k : Nat} {x : I2} (hp : PL H l m) (h : EvP te σ H x) (ho : Evl.Ev ta σ H (.ref l)) (hi : Evl.Ev tb σ H (.int (k : Int))) (hk : k < m.length)
    (cont : ∀ xs v H1, Same H H1 → H1 l = some (.lst xs) → PTs H1 xs m → PT H1 v x → tz D σ (upd H1 l (.lst (xs.set k v)))) : tSeq (tAsg te (gSub ta tb rSetL)) tz D σ H :=
  h H (Same.refl H) _ fun v H1 s1 pv => ho H1 s1 _ fun H2 s2 => hi H2 (Same.trans s1 s2) _ fun H3 s3 => by
    obtain ⟨xs, e, px⟩ := hp.mono (Same.trans (Same.trans s1 s2) s3)
    exact ⟨l, xs, _, k, rfl, rfl, e, Evl.ixN_nat (by rw [pr_len px]; exact hk), cont xs v H3 (Same.trans (Same.trans s1 s2) s3) e px (pv.mono (same_tp (Same.trans s2 s3)))⟩
end
theorem hasB_cons (s : I2) (l : List I2) (p : Int) : hasB (s :: l) p = ((decide (s.1 ≤ p) && decide (p ≤ s.2)) || hasB l p) := rfl
theorem hasB_app (a b : List I2) (p : Int) : hasB (a ++ b) p = (hasB a p || hasB b p) := by
  unfold hasB
  rw [List.any_append]
end Wk
/-! heaps cut, put together, turned about; how long and how great stretches are -/
namespace Wk
open PySem PySem.Spec PyProof.Rows L2 Spr
theorem HB.sub {hs m : List I2} (h : HB hs) (hl : m.length ≤ hs.length) (hm : ∀ x ∈ m, x ∈ hs) : HB m := ⟨Nat.le_trans hl h.len, fun x q => h.pos x (hm x q), fun x q => h.w1 x (hm x q), fun x q => h.w2 x (hm x q)⟩
theorem HB.app {a b : List I2} (h : HB a) (g : HB b) (hl : a.length + b.length ≤ 1000) : HB (a ++ b) := by
  refine ⟨by rw [List.length_append]; exact hl, fun x m => ?_, fun x m => ?_, fun x m => ?_⟩ <;> rcases List.mem_append.mp m with m | m
  · exact h.pos x m
  · exact g.pos x m
  · exact h.w1 x m
  · exact g.w1 x m
  · exact h.w2 x m
  · exact g.w2 x m
theorem HB.cut {hs : List I2} (h : HB hs) (lo hi : Option Int) : HB (cutI hs lo hi) := h.sub (cutI_len _ _ _) fun _ m => cutI_mem m
theorem HB.rev {hs : List I2} (h : HB hs) : HB hs.reverse := h.sub (by rw [List.length_reverse]; exact Nat.le_refl _) fun _ m => List.mem_reverse.mp m
theorem cut_last (m : List I2) : cutI m none (some (-1)) = m.dropLast := by
  unfold cutI
  have e1 : HT.sIx m.length 0 none = 0 := rfl
  have e2 : HT.sIx m.length m.length (some (-1)) = m.length - 1 := by
    show (if (-1 : Int) < 0 then ((-1 : Int) + (m.length : Int)).toNat else min (-1 : Int).toNat m.length) = _
    rw [if_pos (by decide)]
    omega
  rw [e1, e2, List.drop_zero, Nat.sub_zero, List.dropLast_eq_take]
theorem stretches_wd {hs : List I2} (h : HB hs) : ∀ s ∈ stretches hs, Wd 700 s.1 ∧ Wd 700 s.2 := by
  have hc := h.clus
  refine stretches_in h.pos (p := fun x => Wd 700 x) fun c mc x h1 h2 => ?_
  have i1 : hs.length ≤ 1001 := Nat.le_trans h.len (by decide)
  obtain ⟨c0, w1, w2⟩ := hc.get i1 (List.mem_reverse.mp mc)
  obtain ⟨e1, e2⟩ := ends_wd (b := c.2) c0 w1 w2
  exact abs_mid h1 h2 e1 e2
theorem stretches_len {hs : List I2} (h : HB hs) : (stretches hs).length ≤ 3000 := by
  have h1 := joins_len ((clus hs).flatMap parts) []
  have h2 := flat_len (clus hs)
  have h3 := h.clus.len
  have h4 := h.len
  have h5 : (clus hs).length = (clusS (srt hs)).length := by unfold clus; rw [List.length_reverse]
  unfold stretches
  rw [List.length_reverse]
  rw [List.length_nil] at h1
  omega
end Wk
/-! the walk, part E: Spread, spread -/
namespace Wk
open PySem PySem.Spec PyProof.Rows L2 Spr
section
variable {P : Program} {w : World} {K : PySem.W.Frag} {mg : Str → Option Value} {base : Heap} {C : Addr}
theorem MethAt.met {m qual : Str} {st : Stmt} {N ps : List Str} {k : Nat} {sp : Sp} (c : Cls K C) (D : MethAt K C m qual st ps) (S : FnScope N ps (defScope st)) (len : ∀ vs H Q E, sp vs H Q E → vs.length = ps.length)
    (hbody : ∀ (f : Addr) (cdv : Value) (A : Around) (outer : List Env) (s : Shared) (H : Hp) (vs : List V) (Q : VK) (E : XK), Room k (A.deeper (envOfC qual (defScope st) s.heap.objs.size f cdv)) → sp vs H Q E →
      ∃ t, PSs (cxOf CX0 P w K mg base N qual (defScope st) f cdv A outer s H E).nox (defBody st) t ∧ t { nx := fun _ H' => Q .non H', rt := Q } (start N vs) H) : C8.Met P w K mg base (k + 1) C m sp [] := by
  obtain ⟨f, fd, F, hm, b⟩ := D.ex
  exact ⟨f, fd, ps, [], c, hm, F.ok S len (fun cdv A outer s H vs Q E hr h => hbody f cdv A outer s H vs Q E hr h), b, .nil⟩
theorem InitAt.mak {x qual : Str} {st : Stmt} {N ps : List Str} {k : Nat} {sp : Sp} (g : mg x = some (.ref C)) (D : InitAt K C qual st ps) (S : FnScope N ps (defScope st)) (len : ∀ vs H Q E, sp vs H Q E → vs.length = ps.length)
    (hbody : ∀ (f : Addr) (cdv : Value) (A : Around) (outer : List Env) (s : Shared) (H : Hp) (vs : List V) (Q : VK) (E : XK), Room k (A.deeper (envOfC qual (defScope st) s.heap.objs.size f cdv)) → sp vs H Q E →
      ∃ t, PSs (cxOf CX0 P w K mg base N qual (defScope st) f cdv A outer s H E).nox (defBody st) t ∧ t { nx := fun _ H' => Q .non H', rt := Q } (start N vs) H) : C8.Mak P w K mg base (k + 1) x C sp [] := by
  obtain ⟨f, fd, F, M, b⟩ := D.ex
  exact ⟨f, fd, ps, [], M, F.ok S len (fun cdv A outer s H vs Q E hr h => hbody f cdv A outer s H vs Q E hr h), g, b, .nil⟩
def fS (l : Addr) : List (Str × V) := putF "stretches" (.ref l) []
theorem fS_at (l : Addr) : (fS l).lookup ("stretches" : Str) = some (.ref l) := by
  unfold fS
  rw [lookup_putF, if_pos rfl]
theorem fS_no (l : Addr) {m : Str} (h : ¬ m = "stretches") : (fS l).lookup m = none := by
  unfold fS
  rw [lookup_putF, if_neg h]
  all_goals rfl
/-- __init__: its field is a new list of the same -/
def spInit (K : PySem.W.Frag) (C : Addr) : Sp := fun vs H Q _ => ∃ (x dx l : Addr) (xs : List V), vs = [.ref x, .ref l] ∧ H x = some (.ins C dx []) ∧ SqL K H l xs ∧ ∀ q, H q = none → Q .non (upd (upd H q (.lst xs)) x (.ins C dx (fS q)))
theorem mak_Spread (T : Top K mg) (TS : Top_Spread K mg C) : C8.Mak P w K mg base 1 "Spread" C (spInit K C) [] := by
  refine TS.i_Spread.mak TS.g_Spread sc_Spread_init (fun vs H Q E h => ?_) (fun f cdv A outer s H vs Q E hr h => ?_)
  · obtain ⟨x, dx, l, xs, rfl, _⟩ := h
    rfl
  · obtain ⟨x, dx, l, xs, rfl, hx, hl, q⟩ := h
    refine ⟨_, (pss_one (ps_fld (pv 0) (pe_callTy call_list_of (by rfl) T.m_list (by decide +kernel) (pa_cons (pv 1) pa_nil)) rfl)), ?_⟩
    refine ⟨_, rfl, l, xs, rfl, .inl hl, fun q1 hq => ?_⟩
    have nx : x ≠ q1 := ne_of_none hx hq
    refine ⟨_, rfl, x, C, dx, [], rfl, ?_, TS.cl_Spread, TS.na_Spread_stretches, (by show 0 < 1000; decide), ?_⟩
    · rw [upd_ne nx]
      exact hx
    · exact q q1 hq
def spShows (C : Addr) : Sp := fun vs H Q _ => ∃ (x dx l a : Addr) (m hs : List I2), vs = [.ref x, .ref a] ∧ H x = some (.ins C dx (fS l)) ∧ PL H l m ∧ PL H a hs ∧ HB hs ∧ ∀ H', Same H H' → Q (.bl (decide (m = stretches hs))) H'
def spSpread (C : Addr) : Sp := fun vs H Q _ => ∃ (a : Addr) (hs : List I2), vs = [.ref a] ∧ PL H a hs ∧ HB hs ∧ ∀ H' x dx l, Same H H' → H x = none → H l = none → H' x = some (.ins C dx (fS l)) → PL H' l (stretches hs) → Q (.ref x) H'
theorem cal_spread (T : Top K mg) (TS : Top_Spread K mg C) : C8.Cal P w K mg base 4 "spread" (spSpread C) [] := by
  have c_stretches_of : C8.Cal P w K mg base 3 "stretches_of" spStr [] := cal_stretches_of T
  have c_check_heaps : C8.Cal P w K mg base 3 "check_heaps" (spCheck K) [] := cal_check_heaps T
  have c_Spread : C8.Mak P w K mg base 1 "Spread" C (spInit K C) [] := mak_Spread T TS
  refine T.d_spread.cal sc_spread (fun vs H Q E h => ?_) (fun f cdv A outer s H vs Q E hr h => ?_)
  · obtain ⟨a, hs, rfl, _⟩ := h
    rfl
  · obtain ⟨a, hs, rfl, ha, hb, q⟩ := h
    refine ⟨_, (pss_cons (ps_expr (C8.pe_c c_check_heaps hr (by decide) (by rfl) (pa_cons (pv 0) pa_nil)))
 (pss_one (ps_ret (C8.pe_mk c_Spread hr (by decide) (by rfl) (pa_cons (C8.pe_c c_stretches_of hr (by decide) (by rfl) (pa_cons (pv 0) pa_nil)) pa_nil))))), ?_⟩
    refine ⟨_, rfl, _, _, rfl, ha.dp, hb.all, ?_, fun H1 s1 => ?_⟩
    · rw [List.length_map]
      have := hb.len
      omega
    refine ⟨_, rfl, a, hs, rfl, ha.mono s1, hb, fun H2 p s2 np hp => fun x dx nx ndx ne => ?_⟩
    obtain ⟨xs, ep, px⟩ := hp
    have s3 : Same H2 (upd H2 dx (.own x)) := same_new ndx
    have nx3 : upd H2 dx (.own x) x = none := by rw [upd_ne ne.symm]; exact nx
    have s4 : Same (upd H2 dx (.own x)) (upd (upd H2 dx (.own x)) x (.ins C dx [])) := same_new nx3
    have s34 := s3.trans s4
    have s14 := (s1.trans s2).trans s34
    refine ⟨x, dx, p, xs, rfl, upd_same, SqL.of (s34 _ _ ep), fun l nl => ⟨rfl, ?_⟩⟩
    have nxl : x ≠ l := ne_of_none upd_same nl
    have s5 : Same H (upd (upd (upd (upd H2 dx (.own x)) x (.ins C dx [])) l (.lst xs)) x (.ins C dx (fS l))) := same_mut (s14.trans (same_new nl)) ((s1.trans s2).free nx)
    refine q _ x dx l s5 ((s1.trans s2).free nx) (s14.free nl) upd_same ⟨xs, ?_, ?_⟩
    · rw [upd_ne nxl.symm, upd_same]
    · refine PTs.mono ?_ px
      intro b ys e
      have nb : b ≠ x := ne_of_none e nx
      rw [upd_ne nb]
      exact same_new nl _ _ (s34 _ _ e)
end
end Wk
/-! the walk, part F: Spread(..).shows(..), spread(..) as values -/
namespace Wk
open PySem PySem.Spec PyProof.Rows L2 Spr
/-! ### Spread(..).shows(..) -/
section
variable {K : PySem.W.Frag} {C : Addr} {σ : L2.St} {H : Hp} {ta tb : TE}
/-- a Spread object, its field a new list -/
def EvS (C : Addr) (te : TE) (σ : L2.St) (H : Hp) (m : List I2) : Prop := ∀ H1, Same H H1 → ∀ Q : VK, (∀ x dx l H2, H1 x = none → H1 l = none → Same H1 H2 → H2 x = some (.ins C dx (fS l)) → PL H2 l m → Q (.ref x) H2) → te σ H1 Q
theorem evs_make {m : List I2} (h : EvQ ta σ H m) : EvS C (tMake C (spInit K C) [] C8.E0 (tCons ta tNil)) σ H m := fun H1 s Q k =>
  h H1 s _ fun a H2 s2 hp => fun x dx nx ndx ne => by
    obtain ⟨xs, e, ps⟩ := hp
    have s3 : Same H2 (upd H2 dx (.own x)) := same_new ndx
    have nx3 : upd H2 dx (.own x) x = none := by rw [upd_ne ne.symm]; exact nx
    have s4 : Same (upd H2 dx (.own x)) (upd (upd H2 dx (.own x)) x (.ins C dx [])) := same_new nx3
    have s34 := s3.trans s4
    refine ⟨x, dx, a, xs, rfl, upd_same, SqL.of (s34 _ _ e), fun l nl => ⟨rfl, ?_⟩⟩
    have nxl : x ≠ l := ne_of_none upd_same nl
    have s24 := (Same.trans s2 s34).trans (same_new (o := .lst xs) nl)
    refine k x dx l _ (Same.free s2 nx) (Same.free (Same.trans s2 s34) nl) (same_mut s24 (Same.free s2 nx)) upd_same ⟨xs, ?_, ?_⟩
    · rw [upd_ne nxl.symm, upd_same]
    · refine PTs.mono ?_ ps
      intro b ys e
      have nb : b ≠ x := ne_of_none e nx
      rw [upd_ne nb]
      exact same_new nl _ _ (s34 _ _ e)
theorem q_s {tz : TS} {D : Ends} {i : Nat} {m : List I2} (h : EvS C ta σ H m) (k : ∀ x dx l H1, H x = none → H l = none → Same H H1 → H1 x = some (.ins C dx (fS l)) → PL H1 l m → tz D (σ.set i (some (.ref x))) H1) : tSeq (tAsg ta (gName i)) tz D σ H :=
  h H (Same.refl H) _ fun x dx l H1 nx nl s1 ex hl => k x dx l H1 nx nl s1 ex hl
theorem evs_spread {C : Addr} {hs : List I2} (h : EvQ ta σ H hs) (hb : HB hs) : EvS C (tCall (spSpread C) [] C8.E0 (tCons ta tNil)) σ H (stretches hs) := fun H0 s0 Q q =>
  h H0 s0 _ fun a H1 s1 ha => ⟨a, hs, rfl, ha, hb, fun H2 x dx l s2 nx nl ex hl => q x dx l H2 (Same.free s1 nx) (Same.free s1 nl) (Same.trans s1 s2) ex hl⟩
theorem shows_no : ¬ ("shows" : Str) = "stretches" := by decide +kernel
theorem ev_showsM {m hs : List I2} (h1 : EvS C ta σ H m) (h2 : EvQ tb σ H hs) (hb : HB hs) : Evl.Ev (tMeth C "shows" (spShows C) [] C8.E0 ta (tCons tb tNil)) σ H (.bl (decide (m = stretches hs))) := fun H1 s Q k =>
  h1 H1 s _ fun x dx l H2 nx nl s2 ex hl => ⟨x, dx, fS l, rfl, ex, fS_no l shows_no, h2 H2 (Same.trans s s2) _ fun a H3 s3 ha => ⟨x, dx, l, a, m, hs, rfl, s3 _ _ ex, hl.mono s3, ha, hb, fun H4 s4 => k H4 (Same.trans (Same.trans s2 s3) s4)⟩⟩
theorem ev_shows {m hs : List I2} {i : Nat} {x dx l : Addr} (hi : σ[i]? = some (some (.ref x))) (ex : H x = some (.ins C dx (fS l))) (hl : PL H l m) (h2 : EvQ tb σ H hs) (hb : HB hs) :
    Evl.Ev (tMeth C "shows" (spShows C) [] C8.E0 (tVar i) (tCons tb tNil)) σ H (.bl (decide (m = stretches hs))) := fun H1 s Q k =>
  ⟨.ref x, hi, x, dx, fS l, rfl, s _ _ ex, fS_no l shows_no, h2 H1 s _ fun a H3 s3 ha => ⟨x, dx, l, a, m, hs, rfl, s3 _ _ (s _ _ ex), hl.mono (Same.trans s s3), ha, hb, fun H4 s4 => k H4 (Same.trans s3 s4)⟩⟩
/-- its field -/
theorem evq_fld {m : List I2} {i : Nat} {x dx l : Addr} (c : Cls K C) (na : NoAttr K C "stretches") (hi : σ[i]? = some (some (.ref x))) (ex : H x = some (.ins C dx (fS l))) (hl : PL H l m) : EvQ (tFld K (tVar i) "stretches") σ H m := fun H1 s Q k =>
  ⟨.ref x, hi, x, C, dx, _, _, rfl, s _ _ ex, c, na, fS_at l, k l H1 (Same.refl H1) (hl.mono s)⟩
/-- spread(heaps).stretches -/
theorem evn_spread {hs : List I2} (c : Cls K C) (na : NoAttr K C "stretches") (h : EvQ ta σ H hs) (hb : HB hs) : EvN (tFld K (tCall (spSpread C) [] C8.E0 (tCons ta tNil)) "stretches") σ H (stretches hs) := fun H1 s Q k =>
  h H1 s _ fun a H2 s2 ha => ⟨a, hs, rfl, ha, hb, fun H3 x dx l s3 nx nl ex hl => ⟨x, C, dx, _, _, rfl, ex, c, na, fS_at l, k l H3 (Same.free s2 nl) (Same.trans s2 s3) hl⟩⟩
end
end Wk
/-! the walk, part S: check_place, left, has -/
namespace Wk
open PySem PySem.Spec PyProof.Rows L2 Spr
section
variable {P : Program} {w : World} {K : PySem.W.Frag} {mg : Str → Option Value} {base : Heap}
def spPlace : Sp := fun vs H Q _ => ∃ p : Int, vs = [.int p] ∧ Q .non H
theorem cal_check_place (T : Top K mg) : C8.Cal P w K mg base 2 "check_place" spPlace [] := by
  have c_is_whole : C8.Cal P w K mg base 1 "is_whole" (spWhole K) [] := cal_is_whole T
  refine T.d_check_place.cal sc_check_place (fun vs H Q E h => ?_) (fun f cdv A outer s H vs Q E hr h => ?_)
  · obtain ⟨p, rfl, _⟩ := h
    rfl
  · obtain ⟨p, rfl, q⟩ := h
    refine ⟨_, (pss_one (ps_if (pt_not (pt_val (C8.pe_c c_is_whole hr (by decide) (by rfl) (pa_cons (pv 0) pa_nil))))
 (pss_one ps_never)
 pss_nil)), ?_⟩
    exact ⟨_, rfl, .int p, "int", rfl, .base (.int p), by decide, true, rfl, iteF q⟩
end
end Wk
/-! the walk, part L: left -/
namespace Wk
open PySem PySem.Spec PyProof.Rows L2 Spr
section
variable {P : Program} {w : World} {K : PySem.W.Frag} {mg : Str → Option Value} {base : Heap}
def spLeft : Sp := fun vs H Q _ => ∃ (a : Addr) (hs : List I2) (p : Int), vs = [.ref a, .int p] ∧ PL H a hs ∧ HB hs ∧ ∀ H', Same H H' → Q (.int (if hasB (stretches hs) p then 1 else 0)) H'
theorem cal_left (T : Top K mg) : C8.Cal P w K mg base 4 "left" spLeft [] := by
  have c_stretches_of : C8.Cal P w K mg base 3 "stretches_of" spStr [] := cal_stretches_of T
  have c_check_heaps : C8.Cal P w K mg base 3 "check_heaps" (spCheck K) [] := cal_check_heaps T
  have c_check_place : C8.Cal P w K mg base 2 "check_place" spPlace [] := cal_check_place T
  refine T.d_left.cal sc_left (fun vs H Q E h => ?_) (fun f cdv A outer s H vs Q E hr h => ?_)
  · obtain ⟨a, hs, p, rfl, _⟩ := h
    rfl
  · obtain ⟨a, hs, p, rfl, ha, hb, q⟩ := h
    refine ⟨_, (pss_cons (ps_expr (C8.pe_c c_check_heaps hr (by decide) (by rfl) (pa_cons (pv 0) pa_nil)))
 (pss_cons (ps_expr (C8.pe_c c_check_place hr (by decide) (by rfl) (pa_cons (pv 1) pa_nil)))
 (pss_cons (ps_for PassesOwn.never rfl (pi_list (C8.pe_c c_stretches_of hr (by decide) (by rfl) (pa_cons (pv 0) pa_nil))) (pg_tup rfl (pgs_cons (pg_name (i := 2) sc_left.nd rfl (Or.inl rfl)) (pgs_cons (pg_name (i := 3) sc_left.nd rfl (Or.inl rfl)) pgs_nil)))
 (pss_one (ps_if (pt_chain op_le op_le (pv 2) (pv 1) (pv 3))
 (pss_one (ps_ret pe_int))
 pss_nil)))
 (pss_one (ps_ret pe_int))))), ?_⟩
    refine ⟨_, rfl, _, _, rfl, ha.dp, hb.all, by rw [List.length_map]; have := hb.len; omega, fun H1 s1 => ?_⟩
    refine ⟨_, rfl, p, rfl, ?_⟩
    refine ⟨_, rfl, a, hs, rfl, ha.mono s1, hb, fun H2 r s2 nr hr => ?_⟩
    obtain ⟨xs, er, px⟩ := hr
    refine ⟨r, rfl, ⟨xs, SqL.of er⟩, for_list (K := K) (a := r) (xs := xs) (fun i σ H3 => ∃ y2 y3, σ = [some (.ref a), some (.int p), y2, y3] ∧ Same H2 H3 ∧ hasB ((stretches hs).take i) p = false) ⟨none, none, rfl, Same.refl _, rfl⟩ (fun i σ H3 _ hP => ?_) ?_ ?_⟩
    · obtain ⟨_, _, _, s3, _⟩ := hP
      exact SqL.of (s3 _ _ er)
    · rintro i v σ H3 hi ⟨y2, y3, rfl, s3, hf⟩
      obtain ⟨x, hx, pv⟩ := pr_get px hi
      obtain ⟨t, rfl, et⟩ := pv
      refine ⟨t, _, rfl, SqT.of (s3 _ _ et), rfl, _, _, rfl, _, _, rfl, rfl, ?_⟩
      refine if_b (b := decide (x.1 ≤ p) && decide (p ≤ x.2)) (Evl.et_test (ev_chain (Evl.ev_var rfl) (Evl.ev_var rfl) (Evl.ev_var rfl))) (fun e H4 s4 => ?_) (fun e H4 s4 => ?_)
      · have hh : hasB (stretches hs) p = true := by
          rw [Bool.and_eq_true] at e
          exact hasB_iff.mpr ⟨x, List.mem_of_getElem? hx, of_decide_eq_true e.1, of_decide_eq_true e.2⟩
        have := q H4 ((s1.trans s2).trans (s3.trans s4))
        rw [hh] at this
        exact this
      · refine ⟨_, _, rfl, s3.trans s4, ?_⟩
        rw [take_snoc hx, hasB_app, hf, hasB_cons, e]
        rfl
    · rintro σ H3 ⟨y2, y3, rfl, s3, hf⟩
      rw [pr_len px, List.take_length] at hf
      have := q H3 ((s1.trans s2).trans s3)
      rw [hf] at this
      exact this
end
section
variable {K : PySem.W.Frag} {σ : L2.St} {H : Hp} {te ta tb tl : TE}
theorem ev_left {hs : List I2} {p : Int} (h : EvQ ta σ H hs) (hb : HB hs) (h2 : Evl.Ev tb σ H (.int p)) : Evl.Ev (tCall spLeft [] C8.E0 (tCons ta (tCons tb tNil))) σ H (.int (if hasB (stretches hs) p then 1 else 0)) := fun H0 s0 Q q =>
  h H0 s0 _ fun a H1 s1 ha => h2 H1 (Same.trans s0 s1) _ fun H2 s2 => ⟨a, hs, p, rfl, ha.mono s2, hb, fun H3 s3 => q H3 (Same.trans (Same.trans s1 s2) s3)⟩
end
end Wk
/-! the walk, part T: sums, loops that only look, calls as values -/
namespace Wk
open PySem PySem.Spec PyProof.Rows L2 Spr
section
variable {K : PySem.W.Frag} {σ : L2.St} {H : Hp} {te ta tb tl : TE} {t : TT} {tr : TA}
/-- sum([e for a, b in pairs]) -/
theorem ev_sumP0 {m : List I2} {i j : Nat} {vs : List Nat} (f : I2 → Int) (h : EvQ tl σ H m) (hm : m.length ≤ 40000) (hw : ∀ a b, wipe (((wipe σ vs).set i a).set j b) vs = wipe σ vs)
    (he : ∀ x ∈ m, Evl.Ev te (s2 σ vs i j x) H (.int (f x))) : Evl.Ev (tCB (rSum K) (tCons (tLc (iList K tl) (gTup K 2 (gCons (gName i) (gCons (gName j) gNil))) tYes te vs) tNil)) σ H (.int (tot f m)) := by
  unfold tot
  refine ev_sumL ?_
  rw [List.map_map]
  exact el_lcP0 (K := K) (V.int ∘ f) h hm hw he
/-- sum([e for a, b in pairs if t]) -/
theorem ev_sumP {m : List I2} {i j : Nat} {vs : List Nat} (g : I2 → Bool) (f : I2 → Int) (h : EvQ tl σ H m) (hm : m.length ≤ 40000) (hw : ∀ a b, wipe (((wipe σ vs).set i a).set j b) vs = wipe σ vs)
    (ht : ∀ x ∈ m, Evl.EvT t (s2 σ vs i j x) H (g x)) (he : ∀ x ∈ m, g x = true → Evl.Ev te (s2 σ vs i j x) H (.int (f x))) : Evl.Ev (tCB (rSum K) (tCons (tLc (iList K tl) (gTup K 2 (gCons (gName i) (gCons (gName j) gNil))) t te vs) tNil)) σ H (.int (tot f (m.filter g))) := by
  unfold tot
  refine ev_sumL ?_
  rw [List.map_map]
  exact el_lcP (K := K) g (V.int ∘ f) h hm hw ht he
/-- [e for p in pairs], the target a name -/
theorem el_lcN {m : List I2} {i : Nat} {vs : List Nat} (v : I2 → V) (h : EvQ tl σ H m) (hm : m.length ≤ 40000) (hw : ∀ a, wipe ((wipe σ vs).set i a) vs = wipe σ vs)
    (he : ∀ x ∈ m, ∀ pv H1, Same H H1 → PT H1 pv x → Evl.Ev te ((wipe σ vs).set i (some pv)) H1 (v x)) :
    Evl.EvL (tLc (iList K tl) (gName i) tYes te vs) σ H (m.map v) := fun H0 s0 Q q =>
  h H0 s0 _ fun a H1 s1 ha => by
    obtain ⟨xs, ea, px⟩ := ha
    refine ⟨a, rfl, ⟨xs, SqL.of ea⟩, fun D nD => ?_⟩
    refine lc_list (K := K) (a := a) (xs := xs) (fun k H' => Same H1 H' ∧ H' D = some (.lst ((m.take k).map v))) ⟨same_new nD, upd_same⟩ (fun k H' _ p => SqL.of (p.1 _ _ ea)) ?_ ?_
    · rintro k x H' hk ⟨s2', e2⟩
      obtain ⟨y, hy, pv⟩ := pr_get px hk
      have my : y ∈ m := List.mem_of_getElem? hy
      have hkl : k < m.length := (List.getElem?_eq_some_iff.mp hy).1
      refine ⟨hw _, yesT ?_⟩
      refine he y my x H' (Same.trans (Same.trans s0 s1) s2') (pv.mono (same_tp s2')) H' (Evl.Ex.refl _) _ fun H4 s4 => ?_
      refine ⟨_, s4 _ _ e2, ?_, same_mut (Same.trans s2' s4) nD, ?_⟩
      · rw [List.length_map, List.length_take]
        exact Evl.sz_lt (by omega)
      · rw [upd_same, take_snoc hy, List.map_append]
        rfl
    · rintro H' ⟨s2', e2⟩
      rw [pr_len px, List.take_length] at e2
      exact q D H' (Same.free s1 nD) (Same.trans s1 s2') e2
/-- calls -/
theorem ev_whole {i : Int} (h : Evl.Ev te σ H (.int i)) : Evl.Ev (tCall (spWhole K) [] C8.E0 (tCons te tNil)) σ H (.bl true) := fun H0 s0 Q q =>
  h H0 s0 _ fun H1 s1 => ⟨.int i, "int", rfl, .base (.int i), by decide, q H1 s1⟩
/-! ### loops that only look: J of the slots, what stood stands -/
variable {D : Ends} {tu tz : TS}
/-- the ends of a turn: J, and what stood at B stands -/
abbrev tn (J : L2.St → Prop) (B : Hp) (D : Ends) : Ends := { D with nx := fun σ2 H2 => J σ2 ∧ Same B H2, ct := fun σ2 H2 => J σ2 ∧ Same B H2, bk := D.nx }
theorem s_forP {m : List I2} {i j : Nat} (h : EvQ tl σ H m) (J : L2.St → Prop) (h0 : J σ)
    (hs : ∀ x ∈ m, ∀ B σ' H1, Same H B → J σ' → Same B H1 → tu (tn J B D) ((σ'.set i (some (.int x.1))).set j (some (.int x.2))) H1)
    (hd : ∀ σ' H1, J σ' → Same H H1 → D.nx σ' H1) : tFor (iList K tl) (gTup K 2 (gCons (gName i) (gCons (gName j) gNil))) tu D σ H :=
  h H (Same.refl H) _ fun a H1 s1 ha => by
    obtain ⟨xs, ea, px⟩ := ha
    refine ⟨a, rfl, ⟨xs, SqL.of ea⟩, for_list (K := K) (a := a) (xs := xs) (fun k σ' H' => J σ' ∧ Same H1 H') ⟨h0, Same.refl _⟩ (fun k σ' H' _ p => SqL.of (p.2 _ _ ea)) ?_ (fun σ' H' p => hd σ' H' p.1 (Same.trans s1 p.2))⟩
    rintro k x σ' H' hk ⟨jj, s2⟩
    obtain ⟨y, hy, t, rfl, et⟩ := pr_get px hk
    exact ⟨t, _, rfl, SqT.of (s2 _ _ et), rfl, _, _, rfl, _, _, rfl, rfl, hs y (List.mem_of_getElem? hy) H1 σ' H' s1 jj s2⟩
theorem s_forT {xs : List V} {i : Nat} (h : Evl.EvU tl σ H xs) (J : L2.St → Prop) (h0 : J σ)
    (hs : ∀ v ∈ xs, ∀ B σ' H1, Same H B → J σ' → Same B H1 → tu (tn J B D) (σ'.set i (some v)) H1)
    (hd : ∀ σ' H1, J σ' → Same H H1 → D.nx σ' H1) : tFor (iTup K tl) (gName i) tu D σ H :=
  h H (Same.refl H) _ fun a H1 _ s1 ea =>
    ⟨a, rfl, ⟨xs, SqT.of ea⟩, for_tup (K := K) (a := a) (xs := xs) (fun k σ' H' => J σ' ∧ Same H1 H') ⟨h0, Same.refl _⟩ (fun k σ' H' _ p => SqT.of (p.2 _ _ ea)) (fun k x σ' H' hk p => hs x (List.mem_of_getElem? hk) H1 σ' H' s1 p.1 p.2) (fun σ' H' p => hd σ' H' p.1 (Same.trans s1 p.2))⟩
theorem s_forL {xs : List V} {i : Nat} (h : Evl.EvL tl σ H xs) (J : L2.St → Prop) (h0 : J σ)
    (hs : ∀ v ∈ xs, ∀ B σ' H1, Same H B → J σ' → Same B H1 → tu (tn J B D) (σ'.set i (some v)) H1)
    (hd : ∀ σ' H1, J σ' → Same H H1 → D.nx σ' H1) : tFor (iList K tl) (gName i) tu D σ H :=
  h H (Same.refl H) _ fun a H1 _ s1 ea =>
    ⟨a, rfl, ⟨xs, SqL.of ea⟩, for_list (K := K) (a := a) (xs := xs) (fun k σ' H' => J σ' ∧ Same H1 H') ⟨h0, Same.refl _⟩ (fun k σ' H' _ p => SqL.of (p.2 _ _ ea)) (fun k x σ' H' hk p => hs x (List.mem_of_getElem? hk) H1 σ' H' s1 p.1 p.2) (fun σ' H' p => hd σ' H' p.1 (Same.trans s1 p.2))⟩
theorem s_forV {xs : List V} {i a : Addr} {k : Nat} (hk : σ[k]? = some (some (.ref a))) (ea : H a = some (.lst xs)) (J : L2.St → Prop) (h0 : J σ)
    (hs : ∀ v ∈ xs, ∀ B σ' H1, Same H B → J σ' → Same B H1 → tu (tn J B D) (σ'.set i (some v)) H1)
    (hd : ∀ σ' H1, J σ' → Same H H1 → D.nx σ' H1) : tFor (iList K (tVar k)) (gName i) tu D σ H :=
  ⟨.ref a, hk, a, rfl, ⟨xs, SqL.of ea⟩, for_list (K := K) (a := a) (xs := xs) (fun k σ' H' => J σ' ∧ Same H H') ⟨h0, Same.refl _⟩ (fun k σ' H' _ p => SqL.of (p.2 _ _ ea)) (fun k x σ' H' hk p => hs x (List.mem_of_getElem? hk) H σ' H' (Same.refl _) p.1 p.2) (fun σ' H' p => hd σ' H' p.1 p.2)⟩
theorem s_forR {n i : Nat} (hn : n < 1000) (J : L2.St → Prop) (h0 : J σ)
    (hs : ∀ k : Nat, k < n → ∀ B σ' H1, Same H B → J σ' → Same B H1 → tu (tn J B D) (σ'.set i (some (.int (0 + (k : Int))))) H1)
    (hd : ∀ σ' H1, J σ' → Same H H1 → D.nx σ' H1) : tFor (iRng1 (tCons (tC (.int (n : Int))) tNil)) (gName i) tu D σ H :=
  ⟨(n : Int), rfl, by omega, by omega, for_range (lo := 0) (n := (n : Int).toNat) (fun k σ' H' => J σ' ∧ Same H H') ⟨h0, Same.refl _⟩ (fun k σ' H' hk p => hs k (by omega) H σ' H' (Same.refl _) p.1 p.2) (fun σ' H' p => hd σ' H' p.1 p.2)⟩
theorem q_forP {m : List I2} {i j : Nat} (h : EvQ tl σ H m) (J : L2.St → Prop) (h0 : J σ)
    (hs : ∀ x ∈ m, ∀ B σ' H1, Same H B → J σ' → Same B H1 → tu (tn J B { D with nx := tz D }) ((σ'.set i (some (.int x.1))).set j (some (.int x.2))) H1)
    (hd : ∀ σ' H1, J σ' → Same H H1 → tz D σ' H1) : tSeq (tFor (iList K tl) (gTup K 2 (gCons (gName i) (gCons (gName j) gNil))) tu) tz D σ H := s_forP (D := { D with nx := tz D }) h J h0 hs hd
theorem q_forT {xs : List V} {i : Nat} (h : Evl.EvU tl σ H xs) (J : L2.St → Prop) (h0 : J σ)
    (hs : ∀ v ∈ xs, ∀ B σ' H1, Same H B → J σ' → Same B H1 → tu (tn J B { D with nx := tz D }) (σ'.set i (some v)) H1)
    (hd : ∀ σ' H1, J σ' → Same H H1 → tz D σ' H1) : tSeq (tFor (iTup K tl) (gName i) tu) tz D σ H := s_forT (D := { D with nx := tz D }) h J h0 hs hd
theorem q_forL {xs : List V} {i : Nat} (h : Evl.EvL tl σ H xs) (J : L2.St → Prop) (h0 : J σ)
    (hs : ∀ v ∈ xs, ∀ B σ' H1, Same H B → J σ' → Same B H1 → tu (tn J B { D with nx := tz D }) (σ'.set i (some v)) H1)
    (hd : ∀ σ' H1, J σ' → Same H H1 → tz D σ' H1) : tSeq (tFor (iList K tl) (gName i) tu) tz D σ H := s_forL (D := { D with nx := tz D }) h J h0 hs hd
theorem q_forV {xs : List V} {i a : Addr} {k : Nat} (hk : σ[k]? = some (some (.ref a))) (ea : H a = some (.lst xs)) (J : L2.St → Prop) (h0 : J σ)
    (hs : ∀ v ∈ xs, ∀ B σ' H1, Same H B → J σ' → Same B H1 → tu (tn J B { D with nx := tz D }) (σ'.set i (some v)) H1)
    (hd : ∀ σ' H1, J σ' → Same H H1 → tz D σ' H1) : tSeq (tFor (iList K (tVar k)) (gName i) tu) tz D σ H := s_forV (D := { D with nx := tz D }) hk ea J h0 hs hd
theorem q_forR {n i : Nat} (hn : n < 1000) (J : L2.St → Prop) (h0 : J σ)
    (hs : ∀ k : Nat, k < n → ∀ B σ' H1, Same H B → J σ' → Same B H1 → tu (tn J B { D with nx := tz D }) (σ'.set i (some (.int (0 + (k : Int))))) H1)
    (hd : ∀ σ' H1, J σ' → Same H H1 → tz D σ' H1) : tSeq (tFor (iRng1 (tCons (tC (.int (n : Int))) tNil)) (gName i) tu) tz D σ H := s_forR (D := { D with nx := tz D }) hn J h0 hs hd
/-- for m in (list, list, list) -/
theorem q_forN3 {t1 t2 t3 : TE} {m1 m2 m3 : List I2} {i : Nat} (h1 : EvN t1 σ H m1) (h2 : EvN t2 σ H m2) (h3 : EvN t3 σ H m3) (J : L2.St → Prop) (h0 : J σ)
    (hs : ∀ m ∈ [m1, m2, m3], ∀ p B σ' H1, Same H B → PL B p m → J σ' → Same B H1 → tu (tn J B { D with nx := tz D }) (σ'.set i (some (.ref p))) H1)
    (hd : ∀ σ' H1, J σ' → Same H H1 → tz D σ' H1) : tSeq (tFor (iTup K (tTup (tCons t1 (tCons t2 (tCons t3 tNil))))) (gName i) tu) tz D σ H :=
  h1 H (Same.refl H) _ fun p1 H1 _ s1 hp1 => h2 H1 s1 _ fun p2 H2 _ s2 hp2 => h3 H2 (Same.trans s1 s2) _ fun p3 H3 _ s3 hp3 => ⟨(by show 3 ≤ sizeLine; decide), fun t nt => by
    have s4 := same_new (o := .tup [.ref p1, .ref p2, .ref p3]) nt
    have s04 : Same H (upd H3 t (.tup [.ref p1, .ref p2, .ref p3])) := Same.trans (Same.trans (Same.trans s1 s2) s3) s4
    refine ⟨t, rfl, ⟨_, SqT.of upd_same⟩, for_tup (K := K) (a := t) (xs := [.ref p1, .ref p2, .ref p3]) (fun k σ' H' => J σ' ∧ Same (upd H3 t (.tup [.ref p1, .ref p2, .ref p3])) H') ⟨h0, Same.refl _⟩ (fun k σ' H' _ p => SqT.of (p.2 _ _ upd_same)) (fun k x σ' H' hk p => ?_) (fun σ' H' p => hd σ' H' p.1 (Same.trans s04 p.2))⟩
    have hx : ∃ m ∈ [m1, m2, m3], ∃ q, x = .ref q ∧ PL (upd H3 t (.tup [.ref p1, .ref p2, .ref p3])) q m := by
      match k, hk with
      | 0, hk => cases hk; exact ⟨m1, by simp, p1, rfl, hp1.mono ((Same.trans s2 s3).trans s4)⟩
      | 1, hk => cases hk; exact ⟨m2, by simp, p2, rfl, hp2.mono (Same.trans s3 s4)⟩
      | 2, hk => cases hk; exact ⟨m3, by simp, p3, rfl, hp3.mono s4⟩
    obtain ⟨m, mm, q, rfl, hq⟩ := hx
    exact hs m mm q _ σ' H' s04 hq p.1 p.2⟩
end
end Wk
/-! the walk, part G: squares_to, gave, all_gave -/
namespace Wk
open PySem PySem.Spec PyProof.Rows L2 Spr
theorem wd2 : Wd 2 2 := by unfold Wd; decide
section
variable {P : Program} {w : World} {K : PySem.W.Frag} {mg : Str → Option Value} {base : Heap}
def spSq : Sp := fun vs H Q _ => ∃ p : Int, vs = [.int p] ∧ Wd 710 p ∧ Q (.int (sqs p)) H
theorem cal_squares_to (T : Top K mg) : C8.Cal P w K mg base 1 "squares_to" spSq [] := by
  refine T.d_squares_to.cal sc_squares_to (fun vs H Q E h => ?_) (fun f cdv A outer s H vs Q E hr h => ?_)
  · obtain ⟨p, rfl, _⟩ := h
    rfl
  · obtain ⟨p, rfl, wp, q⟩ := h
    refine ⟨_, (pss_one (ps_ret (pe_op op_fdiv (pe_op op_mulW (pe_op op_mulW (pv 0) (pe_op op_add (pv 0) pe_int)) (pe_op op_add (pe_op op_mulW pe_int (pv 0)) pe_int)) pe_int))), ?_⟩
    have w1 : Wd 712 (p + 1) := wp.add wd1
    have w2 : Wd 1422 (p * (p + 1)) := wp.mul w1
    have w3 : Wd 712 (2 * p) := wd2.mul wp
    have w4 : Wd 714 (2 * p + 1) := w3.add wd1
    exact ⟨_, rfl, _, rfl, _, _, rfl, rfl, _, _, rfl, rfl, wp.cmul w1, _, rfl, _, _, rfl, rfl, wd2.cmul wp, _, _, rfl, rfl, _, _, rfl, rfl, w2.cmul w4, _, _, rfl, rfl, ⟨by decide, by decide⟩, q⟩
def spGave : Sp := fun vs H Q _ => ∃ (a : Addr) (hs : List I2) (p : Int), vs = [.ref a, .int p] ∧ PL H a hs ∧ HB hs ∧ Wd 800 p ∧ ∀ H', Same H H' → Q (.int (gaveI hs p)) H'
theorem end_wd {l p : Int} (hl : Wd 700 l) (hp : Wd 802 (p - 1)) : Wd 802 (endI l p) := by
  unfold endI
  split
  · exact hp
  · exact hl.mono (by decide)
theorem cal_gave (T : Top K mg) : C8.Cal P w K mg base 4 "gave" spGave [] := by
  have c_stretches_of : C8.Cal P w K mg base 3 "stretches_of" spStr [] := cal_stretches_of T
  have c_check_heaps : C8.Cal P w K mg base 3 "check_heaps" (spCheck K) [] := cal_check_heaps T
  have c_check_place : C8.Cal P w K mg base 2 "check_place" spPlace [] := cal_check_place T
  refine T.d_gave.cal sc_gave (fun vs H Q E h => ?_) (fun f cdv A outer s H vs Q E hr h => ?_)
  · obtain ⟨a, hs, p, rfl, _⟩ := h
    rfl
  · obtain ⟨a, hs, p, rfl, ha, hb, wp, q⟩ := h
    refine ⟨_, (pss_cons (ps_expr (C8.pe_c c_check_heaps hr (by decide) (by rfl) (pa_cons (pv 0) pa_nil)))
 (pss_cons (ps_expr (C8.pe_c c_check_place hr (by decide) (by rfl) (pa_cons (pv 1) pa_nil)))
 (pss_cons (ps_set (i := 2) sc_gave.nd rfl (Or.inl rfl) pe_int)
 (pss_cons (ps_for PassesOwn.never rfl (pi_list (C8.pe_c c_stretches_of hr (by decide) (by rfl) (pa_cons (pv 0) pa_nil))) (pg_tup rfl (pgs_cons (pg_name (i := 3) sc_gave.nd rfl (Or.inl rfl)) (pgs_cons (pg_name (i := 4) sc_gave.nd rfl (Or.inl rfl)) pgs_nil)))
 (pss_cons (ps_set (i := 5) sc_gave.nd rfl (Or.inl rfl) (pe_callB (call_min2 rfl) (by rfl) T.m_min (by decide +kernel) (pa_cons (pv 4) (pa_cons (pe_op op_sub (pv 1) pe_int) pa_nil))))
 (pss_one (ps_if (pt_cmpR op_le (pv 3) (pv 5) (nomark _))
 (pss_cons (ps_set (i := 6) sc_gave.nd rfl (Or.inl rfl) (pe_op op_add (pe_op op_sub (pv 5) (pv 3)) pe_int))
 (pss_one (ps_aug (i := 2) sc_gave.nd rfl (Or.inl rfl) (pe_op op_sub (pe_op op_mulW (pv 6) (pv 1)) (pe_op op_fdiv (pe_op op_mulW (pv 6) (pe_op op_add (pv 3) (pv 5))) pe_int)) ip_add)))
 pss_nil))))
 (pss_cons (ps_for PassesOwn.never rfl (pi_list (pv 0)) (pg_tup rfl (pgs_cons (pg_name (i := 7) sc_gave.nd rfl (Or.inl rfl)) (pgs_cons (pg_name (i := 8) sc_gave.nd rfl (Or.inl rfl)) pgs_nil)))
 (pss_one (ps_if (pt_cmpR op_lt (pv 7) (pv 1) (nomark _))
 (pss_one (ps_aug (i := 2) sc_gave.nd rfl (Or.inl rfl) (pe_op op_mulW (pe_op op_sub (pv 1) (pv 7)) (pv 8)) ip_sub))
 pss_nil)))
 (pss_one (ps_ret (pv 2)))))))), ?_⟩
    refine ⟨_, rfl, _, _, rfl, ha.dp, hb.all, by rw [List.length_map]; have := hb.len; omega, fun H1 s1 => ?_⟩
    refine ⟨_, rfl, p, rfl, ?_⟩
    refine ⟨_, rfl, a, hs, rfl, ha.mono s1, hb, fun H2 r s2 nr hr => ?_⟩
    obtain ⟨xs, er, px⟩ := hr
    have wp1 : Wd 802 (p - 1) := wp.sub wd1
    refine ⟨r, rfl, ⟨xs, SqL.of er⟩, for_list (K := K) (a := r) (xs := xs) (fun i σ H3 => ∃ y3 y4 y5 y6, σ = [some (.ref a), some (.int p), some (.int (spot ((stretches hs).take i) p)), y3, y4, y5, y6, none, none] ∧ Same H2 H3) ⟨none, none, none, none, rfl, Same.refl _⟩ (fun i σ H3 _ hP => ?_) ?_ ?_⟩
    · obtain ⟨_, _, _, _, _, s3⟩ := hP
      exact SqL.of (s3 _ _ er)
    · rintro i v σ H3 hi ⟨y3, y4, y5, y6, rfl, s3⟩
      obtain ⟨x, hx, t, rfl, et⟩ := pr_get px hi
      have mx := List.mem_of_getElem? hx
      obtain ⟨w1, w2⟩ := stretches_wd hb x mx
      have hle := (stretches_ok hb.pos).1.le x mx
      rw [take_snoc hx, spot_snoc, ← ivc_is hle]
      show gTup K 2 _ _ _ _ _
      have we := end_wd w2 wp1
      refine ⟨t, _, rfl, SqT.of (s3 _ _ et), rfl, _, _, rfl, _, _, rfl, rfl, ?_⟩
      -- end
      refine ⟨_, rfl, _, rfl, _, _, rfl, rfl, x.2, p - 1, rfl, ?_⟩
      refine ⟨_, rfl, _, rfl, x.1, endI x.2 p, rfl, rfl, _, rfl, ite2 (fun c => ?_) (fun c => ?_)⟩
      · have c : x.1 ≤ endI x.2 p := of_decide_eq_true c
        have e : ivc x.1 x.2 p = (endI x.2 p - x.1 + 1) * p - (endI x.2 p - x.1 + 1) * (x.1 + endI x.2 p) / 2 := if_pos c
        rw [e]
        have wm : Wd 1505 (endI x.2 p - x.1 + 1) := (we.sub w1).add wd1
        have wf : Wd 1503 (x.1 + endI x.2 p) := w1.add we
        refine ⟨_, rfl, _, rfl, endI x.2 p, x.1, rfl, rfl, _, _, rfl, rfl, ?_⟩
        refine ⟨_, rfl, _, rfl, _, rfl, endI x.2 p - x.1 + 1, p, rfl, rfl, wm.cmul wp, _, rfl, _, rfl, _, rfl, x.1, endI x.2 p, rfl, rfl, endI x.2 p - x.1 + 1, x.1 + endI x.2 p, rfl, rfl, wm.cmul wf, _, _, rfl, rfl, ⟨by decide, by decide⟩, _, _, rfl, rfl, _, _, rfl, rfl, ?_⟩
        exact ⟨_, _, _, _, rfl, s3⟩
      · have c : ¬ x.1 ≤ endI x.2 p := fun z => c (decide_eq_true z)
        have e : ivc x.1 x.2 p = 0 := if_neg c
        rw [e, Int.add_zero]
        exact ⟨_, _, _, _, rfl, s3⟩
    · rintro σ H3 ⟨y3, y4, y5, y6, rfl, s3⟩
      rw [pr_len px, List.take_length]
      have s03 := (s1.trans s2).trans s3
      obtain ⟨ys, ea, py⟩ := ha.mono s03
      refine ⟨_, rfl, a, rfl, ⟨ys, SqL.of ea⟩, for_list (K := K) (a := a) (xs := ys) (fun i σ H4 => ∃ y7 y8, σ = [some (.ref a), some (.int p), some (.int (spot (stretches hs) p - hpot (hs.take i) p)), y3, y4, y5, y6, y7, y8] ∧ Same H3 H4) ⟨none, none, ?_, Same.refl _⟩ (fun i σ H4 _ hP => ?_) ?_ ?_⟩
      · have : spot (stretches hs) p - hpot (hs.take 0) p = spot (stretches hs) p := by
          show spot (stretches hs) p - 0 = _
          omega
        rw [this]
      · obtain ⟨_, _, _, s4⟩ := hP
        exact SqL.of (s4 _ _ ea)
      · rintro i v σ H4 hi ⟨y7, y8, rfl, s4⟩
        obtain ⟨x, hx, t, rfl, et⟩ := pr_get py hi
        have mx := List.mem_of_getElem? hx
        rw [take_snoc hx, hpot_snoc, ← chipc_is]
        show gTup K 2 _ _ _ _ _
        refine ⟨t, _, rfl, SqT.of (s4 _ _ et), rfl, _, _, rfl, _, _, rfl, rfl, ?_⟩
        refine ⟨_, rfl, _, rfl, x.1, p, rfl, rfl, _, rfl, ite2 (fun c => ?_) (fun c => ?_)⟩
        · have c : x.1 < p := of_decide_eq_true c
          have e : chipc x.1 p x.2 = (p - x.1) * x.2 := if_pos c
          rw [e, ← Int.sub_sub]
          refine ⟨_, rfl, _, rfl, _, rfl, p, x.1, rfl, rfl, _, rfl, p - x.1, x.2, rfl, rfl, (wp.sub (show Wd 200 x.1 from hb.w1 x mx)).cmul (show Wd 200 x.2 from hb.w2 x mx), _, _, rfl, rfl, ?_⟩
          exact ⟨_, _, rfl, s4⟩
        · have c : ¬ x.1 < p := fun z => c (decide_eq_true z)
          have e : chipc x.1 p x.2 = 0 := if_neg c
          rw [e, Int.add_zero]
          exact ⟨_, _, rfl, s4⟩
      · rintro σ H4 ⟨y7, y8, rfl, s4⟩
        rw [pr_len py, List.take_length]
        exact ⟨_, rfl, q H4 (s03.trans s4)⟩
def spAll : Sp := fun vs H Q _ => ∃ (a : Addr) (hs : List I2), vs = [.ref a] ∧ PL H a hs ∧ HB hs ∧ ∀ H', Same H H' → Q (.int (allI hs)) H'
theorem cal_all_gave (T : Top K mg) : C8.Cal P w K mg base 4 "all_gave" spAll [] := by
  have c_stretches_of : C8.Cal P w K mg base 3 "stretches_of" spStr [] := cal_stretches_of T
  have c_check_heaps : C8.Cal P w K mg base 3 "check_heaps" (spCheck K) [] := cal_check_heaps T
  have c_squares_to : C8.Cal P w K mg base 1 "squares_to" spSq [] := cal_squares_to T
  refine T.d_all_gave.cal sc_all_gave (fun vs H Q E h => ?_) (fun f cdv A outer s H vs Q E hr h => ?_)
  · obtain ⟨a, hs, rfl, _⟩ := h
    rfl
  · obtain ⟨a, hs, rfl, ha, hb, q⟩ := h
    refine ⟨_, (pss_cons (ps_expr (C8.pe_c c_check_heaps hr (by decide) (by rfl) (pa_cons (pv 0) pa_nil)))
 (pss_cons (ps_set (i := 1) sc_all_gave.nd rfl (Or.inl rfl) pe_int)
 (pss_cons (ps_for PassesOwn.never rfl (pi_list (C8.pe_c c_stretches_of hr (by decide) (by rfl) (pa_cons (pv 0) pa_nil))) (pg_tup rfl (pgs_cons (pg_name (i := 2) sc_all_gave.nd rfl (Or.inl rfl)) (pgs_cons (pg_name (i := 3) sc_all_gave.nd rfl (Or.inl rfl)) pgs_nil)))
 (pss_one (ps_aug (i := 1) sc_all_gave.nd rfl (Or.inl rfl) (pe_op op_sub (C8.pe_c c_squares_to hr (by decide) (by rfl) (pa_cons (pv 3) pa_nil)) (C8.pe_c c_squares_to hr (by decide) (by rfl) (pa_cons (pe_op op_sub (pv 2) pe_int) pa_nil))) ip_add)))
 (pss_cons (ps_for PassesOwn.never rfl (pi_list (pv 0)) (pg_tup rfl (pgs_cons (pg_name (i := 4) sc_all_gave.nd rfl (Or.inl rfl)) (pgs_cons (pg_name (i := 5) sc_all_gave.nd rfl (Or.inl rfl)) pgs_nil)))
 (pss_one (ps_aug (i := 1) sc_all_gave.nd rfl (Or.inl rfl) (pe_op op_mulW (pe_op op_mulW (pv 4) (pv 4)) (pv 5)) ip_sub)))
 (pss_one (ps_ret (pe_op op_fdiv (pv 1) pe_int))))))), ?_⟩
    refine ⟨_, rfl, _, _, rfl, ha.dp, hb.all, by rw [List.length_map]; have := hb.len; omega, fun H1 s1 => ?_⟩
    refine ⟨_, rfl, a, hs, rfl, ha.mono s1, hb, fun H2 r s2 nr hr => ?_⟩
    obtain ⟨xs, er, px⟩ := hr
    refine ⟨r, rfl, ⟨xs, SqL.of er⟩, for_list (K := K) (a := r) (xs := xs) (fun i σ H3 => ∃ y2 y3, σ = [some (.ref a), some (.int (tot sqS ((stretches hs).take i))), y2, y3, none, none] ∧ Same H2 H3) ⟨none, none, rfl, Same.refl _⟩ (fun i σ H3 _ hP => ?_) ?_ ?_⟩
    · obtain ⟨_, _, _, s3⟩ := hP
      exact SqL.of (s3 _ _ er)
    · rintro i v σ H3 hi ⟨y2, y3, rfl, s3⟩
      obtain ⟨x, hx, t, rfl, et⟩ := pr_get px hi
      have mx := List.mem_of_getElem? hx
      obtain ⟨w1, w2⟩ := stretches_wd hb x mx
      rw [take_snoc hx, tot_app, tot_cons, tot_nil, Int.add_zero]
      show gTup K 2 _ _ _ _ _
      refine ⟨t, _, rfl, SqT.of (s3 _ _ et), rfl, _, _, rfl, _, _, rfl, rfl, ?_⟩
      refine ⟨_, rfl, _, rfl, x.2, rfl, w2.mono (by decide), _, rfl, _, _, rfl, rfl, x.1 - 1, rfl, (w1.sub wd1).mono (by decide), _, _, rfl, rfl, _, _, rfl, rfl, ?_⟩
      exact ⟨_, _, rfl, s3⟩
    · rintro σ H3 ⟨y2, y3, rfl, s3⟩
      rw [pr_len px, List.take_length]
      have s03 := (s1.trans s2).trans s3
      obtain ⟨ys, ea, py⟩ := ha.mono s03
      refine ⟨_, rfl, a, rfl, ⟨ys, SqL.of ea⟩, for_list (K := K) (a := a) (xs := ys) (fun i σ H4 => ∃ y4 y5, σ = [some (.ref a), some (.int (tot sqS (stretches hs) - tot sqH (hs.take i))), y2, y3, y4, y5] ∧ Same H3 H4) ⟨none, none, ?_, Same.refl _⟩ (fun i σ H4 _ hP => ?_) ?_ ?_⟩
      · rw [List.take_zero, tot_nil, Int.sub_zero]
      · obtain ⟨_, _, _, s4⟩ := hP
        exact SqL.of (s4 _ _ ea)
      · rintro i v σ H4 hi ⟨y4, y5, rfl, s4⟩
        obtain ⟨x, hx, t, rfl, et⟩ := pr_get py hi
        have mx := List.mem_of_getElem? hx
        have w1 : Wd 200 x.1 := hb.w1 x mx
        have w2 : Wd 200 x.2 := hb.w2 x mx
        rw [take_snoc hx, tot_app, tot_cons, tot_nil, Int.add_zero, ← Int.sub_sub]
        show gTup K 2 _ _ _ _ _
        refine ⟨t, _, rfl, SqT.of (s4 _ _ et), rfl, _, _, rfl, _, _, rfl, rfl, ?_⟩
        refine ⟨_, rfl, _, rfl, _, rfl, x.1, x.1, rfl, rfl, w1.cmul w1, _, rfl, x.1 * x.1, x.2, rfl, rfl, (w1.mul w1).cmul w2, _, _, rfl, rfl, ?_⟩
        exact ⟨_, _, rfl, s4⟩
      · rintro σ H4 ⟨y4, y5, rfl, s4⟩
        rw [pr_len py, List.take_length]
        exact ⟨_, rfl, _, _, rfl, rfl, ⟨by decide, by decide⟩, q H4 (s03.trans s4)⟩
end
section
variable {K : PySem.W.Frag} {σ : L2.St} {H : Hp} {te ta tb tl : TE}
theorem ev_gave {hs : List I2} {p : Int} (h : EvQ ta σ H hs) (hb : HB hs) (wp : Wd 800 p) (h2 : Evl.Ev tb σ H (.int p)) : Evl.Ev (tCall spGave [] C8.E0 (tCons ta (tCons tb tNil))) σ H (.int (gaveI hs p)) := fun H0 s0 Q q =>
  h H0 s0 _ fun a H1 s1 ha => h2 H1 (Same.trans s0 s1) _ fun H2 s2 => ⟨a, hs, p, rfl, ha.mono s2, hb, wp, fun H3 s3 => q H3 (Same.trans (Same.trans s1 s2) s3)⟩
theorem ev_all {hs : List I2} (h : EvQ ta σ H hs) (hb : HB hs) : Evl.Ev (tCall spAll [] C8.E0 (tCons ta tNil)) σ H (.int (allI hs)) := fun H0 s0 Q q =>
  h H0 s0 _ fun a H1 s1 ha => ⟨a, hs, rfl, ha, hb, fun H3 s3 => q H3 (Same.trans s1 s3)⟩
end
end Wk
/-! the walk, part I: lists of values that only look on -/
namespace Wk
open PySem PySem.Spec PyProof.Rows L2 Spr
section
variable {K : PySem.W.Frag} {σ : L2.St} {H : Hp} {te ta tb tl : TE} {t : TT}
/-- a list of such values -/
def EvI (te : TE) (σ : L2.St) (H : Hp) (xs : List V) : Prop := ∀ H1, Same H H1 → ∀ Q : VK, (∀ p H2, Same H1 H2 → H2 p = some (.lst xs) → Q (.ref p) H2) → te σ H1 Q
theorem evi_of {xs : List V} (h : Evl.EvL te σ H xs) : EvI te σ H xs := fun H1 s Q k => h H1 s Q fun p H2 _ s2 hp => k p H2 s2 hp
theorem evi_var {i : Nat} {a : Addr} {xs : List V} (h : σ[i]? = some (some (.ref a))) (p : H a = some (.lst xs)) : EvI (tVar i) σ H xs := fun H1 s Q k => ⟨.ref a, h, k a H1 (Same.refl H1) (s _ _ p)⟩
theorem el_cat {xs ys : List V} (h1 : EvI ta σ H xs) (h2 : EvI tb σ H ys) (hl : xs.length + ys.length ≤ 100000) : Evl.EvL (tOp rCat ta tb) σ H (xs ++ ys) := fun H1 s Q k =>
  h1 H1 s _ fun p1 H2 s2 hp1 => h2 H2 (Same.trans s s2) _ fun p2 H3 s3 hp2 =>
    ⟨p1, p2, xs, ys, rfl, rfl, s3 _ _ hp1, hp2, Evl.sz_of hl, fun p np => k p _ (Same.free (Same.trans s2 s3) np) (Same.trans (Same.trans s2 s3) (same_new np)) upd_same⟩
theorem ev_ixI {xs : List V} {i : Int} {v : V} (h : EvI te σ H xs) (h2 : Evl.Ev tb σ H (.int i)) (hv : atI xs i = some v) : Evl.Ev (tOp (rIxL K) te tb) σ H v := fun H1 s Q k =>
  h H1 s _ fun p H2 s2 hp => h2 H2 (Same.trans s s2) _ fun H3 s3 => ⟨p, xs, i, v, rfl, rfl, SqL.of (s3 _ _ hp), hv, k H3 (Same.trans s2 s3)⟩
/-- [e for x in list], [e for x in tuple] -/
theorem el_lcI {xs : List V} {i : Nat} {vs : List Nat} (v : V → V) (h : EvI tl σ H xs) (hm : xs.length ≤ 40000) (hw : ∀ a, wipe ((wipe σ vs).set i a) vs = wipe σ vs)
    (he : ∀ x ∈ xs, Evl.Ev te ((wipe σ vs).set i (some x)) H (v x)) : Evl.EvL (tLc (iList K tl) (gName i) tYes te vs) σ H (xs.map v) := fun H0 s0 Q q =>
  h H0 s0 _ fun a H1 s1 ea => ⟨a, rfl, ⟨xs, SqL.of ea⟩, fun D nD =>
    lc_list (K := K) (a := a) (xs := xs) (fun k H' => Same H1 H' ∧ H' D = some (.lst ((xs.take k).map v))) ⟨same_new nD, upd_same⟩ (fun k H' _ p => SqL.of (p.1 _ _ ea))
      (fun k x H' hk p => ⟨hw _, yesT (he x (List.mem_of_getElem? hk) H' (Same.trans (Same.trans s0 s1) p.1) _ fun H4 s4 => ⟨_, s4 _ _ p.2, by
        rw [List.length_map, List.length_take]
        exact Evl.sz_lt (by omega), same_mut (Same.trans p.1 s4) nD, by
        rw [upd_same, take_snoc hk, List.map_append]
        rfl⟩)⟩)
      (fun H' p => q D H' (Same.free s1 nD) (Same.trans s1 p.1) (by
        have := p.2
        rw [List.take_length] at this
        exact this))⟩
theorem el_lcT {xs : List V} {i : Nat} {vs : List Nat} (v : V → V) (h : Evl.EvU tl σ H xs) (hm : xs.length ≤ 40000) (hw : ∀ a, wipe ((wipe σ vs).set i a) vs = wipe σ vs)
    (he : ∀ x ∈ xs, Evl.Ev te ((wipe σ vs).set i (some x)) H (v x)) : Evl.EvL (tLc (iTup K tl) (gName i) tYes te vs) σ H (xs.map v) := fun H0 s0 Q q =>
  h H0 s0 _ fun a H1 _ s1 ea => ⟨a, rfl, ⟨xs, SqT.of ea⟩, fun D nD =>
    lc_tup (K := K) (a := a) (xs := xs) (fun k H' => Same H1 H' ∧ H' D = some (.lst ((xs.take k).map v))) ⟨same_new nD, upd_same⟩ (fun k H' _ p => SqT.of (p.1 _ _ ea))
      (fun k x H' hk p => ⟨hw _, yesT (he x (List.mem_of_getElem? hk) H' (Same.trans (Same.trans s0 s1) p.1) _ fun H4 s4 => ⟨_, s4 _ _ p.2, by
        rw [List.length_map, List.length_take]
        exact Evl.sz_lt (by omega), same_mut (Same.trans p.1 s4) nD, by
        rw [upd_same, take_snoc hk, List.map_append]
        rfl⟩)⟩)
      (fun H' p => q D H' (Same.free s1 nD) (Same.trans s1 p.1) (by
        have := p.2
        rw [List.take_length] at this
        exact this))⟩
/-- x = a op b, laid open -/
theorem peel_op {r : R2} {i : Nat} {tz : TS} {D : Ends} (h : ta σ H fun x H1 => tb σ H1 fun y H2 => r x y H2 fun v H3 => tz D (σ.set i (some v)) H3) : tSeq (tAsg (tOp r ta tb) (gName i)) tz D σ H := h
end
end Wk
/-! the walk, part O: written -/
namespace Wk
open PySem PySem.Spec PyProof.Rows L2 Spr
def most : Int := 1000000000000000000000000000000000000000000000000000000000000
def wPair (h : I2) : Str := (Str.ofString (toString h.1)) ++ ":" ++ (Str.ofString (toString h.2))
def wText (hs : List I2) : Str := if hs = [] then "-" else Txt.join " " (hs.map wPair)
def absI (i : Int) : Int := if i < 0 then -i else i
def okW (h : I2) : Bool := decide (absI h.1 < most) && decide (h.2 < most)
section
variable {K : PySem.W.Frag} {σ : L2.St} {H : Hp} {te ta tb tl : TE}
theorem ev_abs {i : Int} (h : Evl.Ev te σ H (.int i)) : Evl.Ev (tCB (fun xs H Q => ∃ i, xs = [.int i] ∧ Q (.int (if i < 0 then -i else i)) H) (tCons te tNil)) σ H (.int (absI i)) := fun H0 s0 Q q =>
  h H0 s0 _ fun H1 s1 => ⟨i, rfl, q H1 s1⟩
theorem ev_str {i : Int} (h : Evl.Ev te σ H (.int i)) (hz : i.natAbs.log2 < 1920) : Evl.Ev (tCB (fun xs H Q => ∃ i : Int, xs = [.int i] ∧ i.natAbs.log2 < 1920 ∧ Q (.str (toString i)) H) (tCons te tNil)) σ H (.str (Str.ofString (toString i))) := fun H0 s0 Q q =>
  h H0 s0 _ fun H1 s1 => ⟨i, rfl, hz, q H1 s1⟩
theorem rv_addS {a b : Str} (h : a.length + b.length ≤ 100000) : Evl.RV (fun x y H Q => ∃ i j, x = .str i ∧ y = .str j ∧ i.length + j.length ≤ sizeLine ∧ Q (.str (i ++ j)) H) (.str a) (.str b) H (.str (a ++ b)) := fun H1 _ _ q =>
  ⟨a, b, rfl, rfl, Evl.sz_of h, q H1 (Evl.Ex.refl H1)⟩
end
theorem log_wd {i : Int} (h : Wd 200 i) : i.natAbs.log2 < 1920 := by
  have h : i.natAbs < 2 ^ 200 := h
  by_cases z : i.natAbs = 0
  · rw [z]; decide
  · exact Nat.lt_trans ((Nat.log2_lt z).mpr h) (by decide)
theorem num_len {i : Int} (h : Wd 200 i) : (Str.ofString (toString i)).length ≤ 1921 := int_text_len_1921 (log_wd h)
theorem str_len_app (a b : Str) : (a ++ b).length = a.length + b.length := by
  show (a.cps ++ b.cps).size = a.cps.size + b.cps.size
  exact Array.size_append
theorem wPair_len {h : I2} (h1 : Wd 200 h.1) (h2 : Wd 200 h.2) : (wPair h).length ≤ 3843 := by
  have a := num_len h1
  have b := num_len h2
  unfold wPair
  rw [str_len_app, str_len_app]
  have e : (":" : Str).length = 1 := rfl
  omega
theorem wSum {hs : List I2} (h : HB hs) : ((hs.map wPair).map (·.length)).sum ≤ 3843 * hs.length := by
  have : ∀ l : List I2, (∀ x ∈ l, Wd 200 x.1 ∧ Wd 200 x.2) → ((l.map wPair).map (·.length)).sum ≤ 3843 * l.length := by
    intro l
    induction l with
    | nil => intro _; exact Nat.le_refl _
    | cons x l ih =>
      intro q
      rw [List.map_cons, List.map_cons, List.sum_cons, List.length_cons]
      have a := wPair_len (q x List.mem_cons_self).1 (q x List.mem_cons_self).2
      have b := ih fun y m => q y (List.mem_cons_of_mem _ m)
      omega
  exact this hs fun x m => ⟨h.w1 x m, h.w2 x m⟩
section
variable {P : Program} {w : World} {K : PySem.W.Frag} {mg : Str → Option Value} {base : Heap}
def spWritten : Sp := fun vs H Q _ => ∃ (a : Addr) (hs : List I2), vs = [.ref a] ∧ PL H a hs ∧ HB hs ∧ hs.all okW = true ∧ ∀ H', Same H H' → Q (.str (wText hs)) H'
theorem cal_written {t : Tok} (T : Top K mg) (gM : mg "MOST" = some (.int 1000000000000000000000000000000000000000000000000000000000000 t)) : C8.Cal P w K mg base 4 "written" spWritten [] := by
  have c_check_heaps : C8.Cal P w K mg base 3 "check_heaps" (spCheck K) [] := cal_check_heaps T
  refine T.d_written.cal sc_written (fun vs H Q E h => ?_) (fun f cdv A outer s H vs Q E hr h => ?_)
  · obtain ⟨a, hs, rfl, _⟩ := h
    rfl
  · obtain ⟨a, hs, rfl, ha, hb, hok, q⟩ := h
    refine ⟨_, (pss_cons (ps_expr (C8.pe_c c_check_heaps hr (by decide) (by rfl) (pa_cons (pv 0) pa_nil)))
 (pss_cons (ps_if (pt_not (pt_val (pe_callB (cr_all rfl) (by rfl) T.m_all (by decide +kernel) (pa_cons (pe_lc (own := [("place", 1), ("count", 2)]) (g := (gTup K 2 (gCons (gName 1) (gCons (gName 2) gNil)))) rfl sc_written.nd (pi_list (pv 0)) (blkOk_by (own := [("place", 1), ("count", 2)]) (N := ["heaps", "place", "count"]) (sc := defScope st_written) (by decide +kernel)) (fun _ _ _ _ _ => (pg_tup rfl (pgs_cons (pg_name (i := 1) sc_written.nd rfl (Or.inl rfl)) (pgs_cons (pg_name (i := 2) sc_written.nd rfl (Or.inl rfl)) pgs_nil)))) (fun _ _ _ _ _ => pts_nil) (fun _ _ _ _ _ => (pe_and (pe_cmpR op_lt (pe_callB call_abs (by rfl) T.m_abs (by decide +kernel) (pa_cons (pv 1) pa_nil)) (pe_glob (v := .int 1000000000000000000000000000000000000000000000000000000000000) rfl gM ⟨_, rfl⟩) (nomark _)) (pe_one (pe_cmpR op_lt (pv 2) (pe_glob (v := .int 1000000000000000000000000000000000000000000000000000000000000) rfl gM ⟨_, rfl⟩) (nomark _)))))) pa_nil))))
 (pss_one ps_never)
 pss_nil)
 (pss_cons (ps_if (pt_cmpR op_eq (pe_callB call_len_seq (by rfl) T.m_len (by decide +kernel) (pa_cons (pv 0) pa_nil)) pe_int (nomark _))
 (pss_one (ps_ret pe_str))
 pss_nil)
 (pss_one (ps_ret (pe_join pe_str (pe_lc (own := [("place", 1), ("count", 2)]) (g := (gTup K 2 (gCons (gName 1) (gCons (gName 2) gNil)))) rfl sc_written.nd (pi_list (pv 0)) (blkOk_by (own := [("place", 1), ("count", 2)]) (N := ["heaps", "place", "count"]) (sc := defScope st_written) (by decide +kernel)) (fun _ _ _ _ _ => (pg_tup rfl (pgs_cons (pg_name (i := 1) sc_written.nd rfl (Or.inl rfl)) (pgs_cons (pg_name (i := 2) sc_written.nd rfl (Or.inl rfl)) pgs_nil)))) (fun _ _ _ _ _ => pts_nil) (fun _ _ _ _ _ => (pe_op op_add_str (pe_op op_add_str (pe_callTy call_str_int (by rfl) T.m_str (by decide +kernel) (pa_cons (pv 1) pa_nil)) pe_str) (pe_callTy call_str_int (by rfl) T.m_str (by decide +kernel) (pa_cons (pv 2) pa_nil))))))))))), ?_⟩
    have hl := hb.len
    refine ⟨_, rfl, _, _, rfl, ha.dp, hb.all, by rw [List.length_map]; omega, fun H1 s1 => ?_⟩
    refine nx_mk ?_
    refine q_whenb (b := false) ?_ (fun z => nomatch z) (fun _ H2 s2 => ?_)
    · have e : (hs.map okW).all id = true := by
        rw [List.all_map]
        exact hok
      refine Evl.et_is (Evl.et_not (Evl.et_B (ev_allL (bs := hs.map okW) ?_))) (by rw [e]; rfl)
      rw [List.map_map]
      exact el_lcP0 (K := K) (V.bl ∘ okW) (evq_var rfl (ha.mono s1)) (by omega) (fun _ _ => rfl) fun x _ => Evl.ev_andV (Evl.ev_op (ev_abs (Evl.ev_var rfl)) Evl.ev_c Evl.rv_I0) fun _ => Evl.ev_op (Evl.ev_var rfl) Evl.ev_c Evl.rv_I0
    have s02 := s1.trans s2
    have ha2 := ha.mono s02
    refine q_when (c := (hs.length : Int) = 0) (Evl.et_test (Evl.ev_op (ev_lenQ (K := K) (evq_var rfl ha2)) Evl.ev_c rv_eqI)) (fun c H3 s3 => ?_) (fun c H3 s3 => ?_)
    · have e : wText hs = "-" := if_pos (List.length_eq_zero_iff.mp (by omega))
      rw [e] at q
      exact q H3 (s02.trans s3)
    · have e : wText hs = Txt.join " " (hs.map wPair) := if_neg fun z => c (by rw [z]; rfl)
      rw [e] at q
      refine ⟨⟨_, rfl⟩, ?_⟩
      refine el_lcP0 (K := K) (V.str ∘ wPair) (evq_var rfl (ha2.mono s3)) (by omega) (fun _ _ => rfl) (fun x mx => ?_) H3 (Same.refl _) _ fun p H4 np s4 ep => ?_
      · have w1 : Wd 200 x.1 := hb.w1 x mx
        have w2 : Wd 200 x.2 := hb.w2 x mx
        have n1 := num_len w1
        have n2 := num_len w2
        have e1 : (":" : Str).length = 1 := rfl
        exact Evl.ev_op (Evl.ev_op (ev_str (Evl.ev_var rfl) (log_wd w1)) Evl.ev_c (rv_addS (by omega))) (ev_str (Evl.ev_var rfl) (log_wd w2)) (rv_addS (by rw [str_len_app]; omega))
      · have sm := wSum hb
        rw [← List.map_map] at ep
        refine ⟨_, p, hs.map wPair, rfl, rfl, .inl (SqL.of ep), ?_, q H4 ((s02.trans s3).trans s4)⟩
        rw [List.length_map]
        have e1 : (" " : Str).length = 1 := rfl
        rw [e1]
        omega
end
end Wk
/-! text * int -/
namespace Wk
open PySem PySem.Spec PyProof.Rows L2 Spr
def repS (i : Str) (n : Nat) : Str := ⟨(List.replicate n i.cps).foldl (· ++ ·) #[]⟩
theorem fold_size (a : Array Nat) : ∀ (n : Nat) (b : Array Nat), ((List.replicate n a).foldl (· ++ ·) b).size = b.size + n * a.size
  | 0, b => by simp
  | n + 1, b => by
    rw [List.replicate_succ, List.foldl_cons, fold_size a n (b ++ a), Array.size_append, Nat.succ_mul]
    omega
theorem repS_len (i : Str) (n : Nat) : (repS i n).length = n * i.length := by
  show ((List.replicate n i.cps).foldl (· ++ ·) #[]).size = _
  rw [fold_size]
  simp
  rfl
section
variable {X : Cx}
theorem op_mulS : OpR X (binaryOp .Mult) (fun x y H Q => ∃ (i : Str) (k : Int), x = .str i ∧ y = .int k ∧ 2 ≤ k ∧ k ≤ 100000 ∧ i.length = 1 ∧ Q (.str (repS i k.toNat)) H) := by
  intro pins s σ H x y v u Q I rx ry h
  obtain ⟨i, k, rfl, rfl, h1, h2, hi, q⟩ := h
  obtain ⟨t, rfl⟩ := rx
  obtain ⟨t', rfl⟩ := ry
  have e1 : ((k == 1 || i.length == 0) = true) = False := by
    rw [hi]
    have : (k == 1) = false := by simpa using (show ¬ k = 1 by omega)
    rw [this]
    simp
  refine PySem.P.mul_str ?_ (fun _ _ => ?_) (fun _ _ => ?_) ?_
  · rw [decide_eq_false (by omega), decide_eq_false (by omega)]; rfl
  · rw [hi]
    have : (1 : Int) ≤ (2 ^ 63 - 1) / k := by
      refine Int.le_ediv_of_mul_le (by omega) ?_
      omega
    show ¬ (((1 : Nat) : Int) > (2 ^ 63 - 1) / k)
    omega
  · rw [hi]
    show decide (1 * k.toNat > sizeLine) = false
    refine decide_eq_false ?_
    rw [sizeLine_eq]
    omega
  · rw [if_neg (by omega), if_neg (by rw [e1]; exact id)]
    refine ⟨?_, ⟨.str (repS i k.toNat), H, I.tok _, ⟨_, rfl⟩, q⟩⟩
    have := repS_len i k.toNat
    rw [hi] at this
    show (repS i k.toNat).length ≤ sizeLine
    rw [this, sizeLine_eq]
    omega
end
end Wk
/-! law 7: defs that raise -/
namespace Wk
open PySem PySem.Spec PyProof.Rows L2 Spr
/-- a def that may raise, under its name -/
structure CalX (P : Program) (w : World) (K : PySem.W.Frag) (mg : Str → Option Value) (base : Heap) (k : Nat) (x : Str) (sp : Sp) : Prop where
  ex : ∃ (f : Addr) (fd : FuncData) (ps : List Str), FnOk P w K mg base (L2.CX P w) k f fd ps sp ∧ mg x = some (.ref f) ∧ PySem.W.keepIn K (.ref f) = true ∧ Binds K fd ps []
section
variable {X : Cx} {sp : Sp} {E : L2.St → XK} {x : Str} {p pos : Pos} {e : Expr} {es : List Expr} {t : TA} {k j : Nat}
theorem pe_cx (c : CalX X.prog X.w X.K X.mg X.base k x sp) (hr : Room j X.A) (hk : k ≤ j) (hg : Gl X x) (hx : ∀ σ, PassesAt (L2.CX X.prog X.w) X σ (E σ)) (ha : PA X (e :: es) t)
    (hdb : (x == ("__debug__" : Str)) = false := by decide) (he : starEach (e :: es) X.env = (false, eval e X.env) :: starEach es X.env := by rfl) (hpl : (backTo pos (starEach es X.env)).any (·.1) = false := by rfl) :
    PE X (.Call (.Name x p) (e :: es) [] pos) (tCallS sp E t) := by
  refine ⟨fun pins s σ H Q I h => ?_⟩
  obtain ⟨f, fd, ps, F, hm, hkp, hb⟩ := c.ex
  exact (pe_callS F (hr.mono hk) hg hm hkp hb hx ha hdb he hpl).run pins s σ H Q I h
end
section
variable {P : Program} {w : World} {K : PySem.W.Frag} {mg : Str → Option Value} {base : Heap} {C1 C2 C3 C4 : Addr}
theorem DefAt.calX {x : Str} {st : Stmt} {N ps : List Str} {k : Nat} {sp : Sp} (D : DefAt K mg x st ps) (S : FnScope N ps (defScope st)) (len : ∀ vs H Q E, sp vs H Q E → vs.length = ps.length)
    (hbody : ∀ (f : Addr) (cdv : Value) (A : Around) (outer : List Env) (s : Shared) (H : Hp) (vs : List V) (Q : VK) (E : XK), Room k (A.deeper (envOfC x (defScope st) s.heap.objs.size f cdv)) → sp vs H Q E →
      ∃ t, PSs (cxOf (L2.CX P w) P w K mg base N x (defScope st) f cdv A outer s H E) (defBody st) t ∧ t { nx := fun _ H' => Q .non H', rt := Q } (start N vs) H) : CalX P w K mg base (k + 1) x sp := by
  obtain ⟨f, fd, F, hm, b⟩ := D.ex
  exact ⟨f, fd, ps, F.okX S len (fun cdv A outer s H vs Q E hr h => hbody f cdv A outer s H vs Q E hr h), hm, F.kp, b⟩
/-- what is no list, of a type that is told -/
inductive Oth (H : Hp) : V → String → Prop where
  | non : Oth H .non "NoneType"
  | bl (b : Bool) : Oth H (.bl b) "bool"
  | int (i : Int) : Oth H (.int i) "int"
  | str (x : Str) : Oth H (.str x) "str"
  | tup {a : Addr} {xs : List V} (e : H a = some (.tup xs)) : Oth H (.ref a) "tuple"
  | dic {a : Addr} (e : H a = some (.dK [])) : Oth H (.ref a) "dict"
theorem Oth.mono {H H' : Hp} (s : Same H H') {v : V} {n : String} (h : Oth H v n) : Oth H' v n := by
  cases h with
  | non => exact .non
  | bl b => exact .bl b
  | int i => exact .int i
  | str x => exact .str x
  | tup e => exact .tup (s _ _ e)
  | dic e => exact .dic (s _ _ e)
theorem Oth.ty {H : Hp} {v : V} {n : String} (h : Oth H v n) : TyX K H v (.type n) := by
  cases h with
  | non => exact .base .non
  | bl b => exact .base (.bl b)
  | int i => exact .base (.int i)
  | str x => exact .base (.str x)
  | tup e => exact .base (.tup e)
  | dic e => exact .base (.dK e)
theorem Oth.no {H : Hp} {v : V} {n : String} (h : Oth H v n) : kitB n "list" = some false := by
  cases h <;> decide +kernel
theorem Oth.mem {H : Hp} {v : V} {n : String} (h : Oth H v n) : n ∈ ["NoneType", "bool", "int", "str", "list", "tuple", "dict"] := by
  cases h <;> simp
/-- what is no heaps -/
def BadH (K : PySem.W.Frag) (H : Hp) (v : V) : Prop := (∃ n, Oth H v n) ∨ ∃ ds, Dp K H v (.list ds) ∧ ds.all isHeapD = false ∧ ds.length < 40000
theorem BadH.mono {H H' : Hp} (s : Same H H') {v : V} (h : BadH K H v) : BadH K H' v := by
  rcases h with ⟨n, ty⟩ | ⟨ds, dp, r⟩
  · exact .inl ⟨n, ty.mono s⟩
  · exact .inr ⟨ds, dp_mono s dp, r⟩
def spCheckX (K : PySem.W.Frag) (C : Addr) : Sp := fun vs H Q E => ∃ v, vs = [v] ∧ BadH K H v ∧ ∀ H', Same H H' → E (.ref C) none H'
theorem calx_check_heaps (T : Top K mg) (TX : TopX K mg C1 C2 C3 C4) : CalX P w K mg base 3 "check_heaps" (spCheckX K C2) := by
  have c_is_heap : C8.Cal P w K mg base 2 "is_heap" (spHeap K) [] := cal_is_heap T
  refine T.d_check_heaps.calX sc_check_heaps (fun vs H Q E h => ?_) (fun f cdv A outer s H vs Q E hr h => ?_)
  · obtain ⟨v, rfl, _⟩ := h
    rfl
  · obtain ⟨v, rfl, bad, q⟩ := h
    refine ⟨_, (pss_one (ps_if (PW.pt (pw_or (pt_not (pt_val (pe_callB call_isi (by rfl) T.m_isinstance (by decide +kernel) (pa_cons (pv 0) (pa_cons (pe_bltn (v := .ty "list") (by rfl) T.m_list (by decide +kernel) rfl) pa_nil))))) (pw_or1 (pt_not (pt_val (pe_callB (cr_all rfl) (by rfl) T.m_all (by decide +kernel) (pa_cons (pe_lc (own := [("heap", 1)]) (g := (gName 1)) rfl sc_check_heaps.nd (pi_list (pv 0)) (blkOk_by (own := [("heap", 1)]) (N := ["heaps", "heap"]) (sc := defScope st_check_heaps) (by decide +kernel)) (fun _ _ _ _ _ => (pg_name (i := 1) sc_check_heaps.nd rfl (Or.inl rfl))) (fun _ _ _ _ _ => pts_nil) (fun _ _ _ _ _ => (C8.pe_c c_is_heap hr (by decide) (by rfl) (pa_cons (pv 1) pa_nil)))) pa_nil)))))))
 (pss_one (ps_raise rfl (takes_of rfl rfl rfl rfl) (pmk_own PySem.F.excBase_ValueError TX.x_BadHeaps.xP TX.x_BadHeaps.gP TX.x_BadHeaps.kP (raises_own TX.x_BadHeaps.bP TX.x_BadHeaps.tP) (by exact rfl))))
 pss_nil)), ?_⟩
    rcases bad with ⟨n, o⟩ | ⟨ds, dp, hall, hlen⟩
    · exact ⟨v, rfl, v, .ty "list", .type n, .type "list", false, rfl, .ty "list", o.ty, kit_ty o.no, false, rfl, iteT (iteT (q H (Same.refl _)))⟩
    · have ty := dp_ty dp
      cases dp with
      | @lst a xs _ hL hx =>
      have lx := dp_len hx
      refine ⟨_, rfl, _, .ty "list", .type "list", .type "list", true, rfl, .ty "list", ty, kit_ty (by decide +kernel), true, rfl, iteF ?_⟩
      refine ⟨_, rfl, a, rfl, ⟨_, hL⟩, fun D nD => ?_⟩
      refine lc_list (K := K) (a := a) (xs := xs) (fun i H1 => Same H H1 ∧ H1 D = some (.lst (((ds.take i).map isHeapD).map V.bl))) ⟨same_new nD, by rw [upd_same]; rfl⟩ (fun i H1 _ p => p.1.seq hL) ?_ ?_
      · rintro i x H1 hi ⟨s1, e1⟩
        obtain ⟨d, hd, dx⟩ := dpAll_get hx hi
        have hil : i < ds.length := (List.getElem?_eq_some_iff.mp hd).1
        refine ⟨rfl, yesT ?_⟩
        refine ⟨x, rfl, x, d, rfl, dp_mono s1 dx, _, e1, ?_, same_mut s1 nD, ?_⟩
        · rw [List.length_map, List.length_map, List.length_take]
          exact Evl.sz_lt (by omega)
        · rw [upd_same, take_snoc hd, List.map_append, List.map_append]
          rfl
      · rintro H1 ⟨s1, e1⟩
        refine ⟨D, (ds.take xs.length).map isHeapD, rfl, SqL.of e1, _, rfl, ?_⟩
        rw [lx, List.take_length, List.all_map]
        have e : ds.all (id ∘ isHeapD) = false := hall
        rw [e]
        exact iteT (q H1 s1)
/-- what is no place -/
def spPlaceX (C : Addr) : Sp := fun vs H Q E => ∃ v n, vs = [v] ∧ (Oth H v n ∨ ∃ a xs, v = .ref a ∧ H a = some (.lst xs) ∧ n = "list") ∧ n ≠ "int" ∧ ∀ H', Same H H' → E (.ref C) none H'
theorem calx_check_place (T : Top K mg) (TX : TopX K mg C1 C2 C3 C4) : CalX P w K mg base 2 "check_place" (spPlaceX C3) := by
  have c_is_whole : C8.Cal P w K mg base 1 "is_whole" (spWhole K) [] := cal_is_whole T
  refine T.d_check_place.calX sc_check_place (fun vs H Q E h => ?_) (fun f cdv A outer s H vs Q E hr h => ?_)
  · obtain ⟨v, n, rfl, _⟩ := h
    rfl
  · obtain ⟨v, n, rfl, o, hn, q⟩ := h
    refine ⟨_, (pss_one (ps_if (pt_not (pt_val (C8.pe_c c_is_whole hr (by decide) (by rfl) (pa_cons (pv 0) pa_nil))))
 (pss_one (ps_raise rfl (takes_of rfl rfl rfl rfl) (pmk_own PySem.F.excBase_ValueError TX.x_BadPlace.xP TX.x_BadPlace.gP TX.x_BadPlace.kP (raises_own TX.x_BadPlace.bP TX.x_BadPlace.tP) (by exact rfl))))
 pss_nil)), ?_⟩
    have e : (n == "int") = false := by simpa using hn
    have tm : TyX K H v (.type n) ∧ n ∈ ["NoneType", "bool", "int", "str", "list", "tuple", "dict"] := by
      rcases o with o | ⟨a, xs, rfl, ea, rfl⟩
      · exact ⟨o.ty, o.mem⟩
      · exact ⟨.base (.lst ea), by simp⟩
    refine ⟨_, rfl, v, n, rfl, tm.1, tm.2, ?_⟩
    rw [e]
    exact ⟨false, rfl, iteT (q H (Same.refl _))⟩
/-! ### the doors -/
def spDoorX (K : PySem.W.Frag) (C : Addr) : Sp := spCheckX K C
theorem calx_spread (T : Top K mg) (TX : TopX K mg C1 C2 C3 C4) : CalX P w K mg base 4 "spread" (spCheckX K C2) := by
  have cx_check_heaps : CalX P w K mg base 3 "check_heaps" (spCheckX K C2) := calx_check_heaps T TX
  refine T.d_spread.calX sc_spread (fun vs H Q E h => ?_) (fun f cdv A outer s H vs Q E hr h => ?_)
  · obtain ⟨v, rfl, _⟩ := h
    rfl
  · obtain ⟨v, rfl, bad, q⟩ := h
    refine ⟨_, (pss_cons (ps_expr (pe_cx cx_check_heaps hr (by decide) (by rfl) (fun σ => passAt (takes_of rfl rfl rfl rfl) σ) (pa_cons (pv 0) pa_nil))) (pss_one ps_never)), ?_⟩
    exact ⟨_, rfl, v, rfl, bad, q⟩
theorem calx_all_gave (T : Top K mg) (TX : TopX K mg C1 C2 C3 C4) : CalX P w K mg base 4 "all_gave" (spCheckX K C2) := by
  have cx_check_heaps : CalX P w K mg base 3 "check_heaps" (spCheckX K C2) := calx_check_heaps T TX
  refine T.d_all_gave.calX sc_all_gave (fun vs H Q E h => ?_) (fun f cdv A outer s H vs Q E hr h => ?_)
  · obtain ⟨v, rfl, _⟩ := h
    rfl
  · obtain ⟨v, rfl, bad, q⟩ := h
    refine ⟨_, (pss_cons (ps_expr (pe_cx cx_check_heaps hr (by decide) (by rfl) (fun σ => passAt (takes_of rfl rfl rfl rfl) σ) (pa_cons (pv 0) pa_nil))) (pss_cons ps_never (pss_cons ps_never (pss_cons ps_never (pss_one ps_never))))), ?_⟩
    exact ⟨_, rfl, v, rfl, bad, q⟩
/-- two arguments: the first no heaps, or heaps and the other no place -/
def spTwoX (K : PySem.W.Frag) (C : Addr) : Sp := fun vs H Q E => ∃ v u, vs = [v, u] ∧ BadH K H v ∧ ∀ H', Same H H' → E (.ref C) none H'
theorem calx_left (T : Top K mg) (TX : TopX K mg C1 C2 C3 C4) : CalX P w K mg base 4 "left" (spTwoX K C2) := by
  have cx_check_heaps : CalX P w K mg base 3 "check_heaps" (spCheckX K C2) := calx_check_heaps T TX
  refine T.d_left.calX sc_left (fun vs H Q E h => ?_) (fun f cdv A outer s H vs Q E hr h => ?_)
  · obtain ⟨v, u, rfl, _⟩ := h
    rfl
  · obtain ⟨v, u, rfl, bad, q⟩ := h
    refine ⟨_, (pss_cons (ps_expr (pe_cx cx_check_heaps hr (by decide) (by rfl) (fun σ => passAt (takes_of rfl rfl rfl rfl) σ) (pa_cons (pv 0) pa_nil))) (pss_cons ps_never (pss_cons ps_never (pss_one ps_never)))), ?_⟩
    exact ⟨_, rfl, v, rfl, bad, q⟩
theorem calx_gave (T : Top K mg) (TX : TopX K mg C1 C2 C3 C4) : CalX P w K mg base 4 "gave" (spTwoX K C2) := by
  have cx_check_heaps : CalX P w K mg base 3 "check_heaps" (spCheckX K C2) := calx_check_heaps T TX
  refine T.d_gave.calX sc_gave (fun vs H Q E h => ?_) (fun f cdv A outer s H vs Q E hr h => ?_)
  · obtain ⟨v, u, rfl, _⟩ := h
    rfl
  · obtain ⟨v, u, rfl, bad, q⟩ := h
    refine ⟨_, (pss_cons (ps_expr (pe_cx cx_check_heaps hr (by decide) (by rfl) (fun σ => passAt (takes_of rfl rfl rfl rfl) σ) (pa_cons (pv 0) pa_nil))) (pss_cons ps_never (pss_cons ps_never (pss_cons ps_never (pss_cons ps_never (pss_one ps_never)))))), ?_⟩
    exact ⟨_, rfl, v, rfl, bad, q⟩
def spTwoP (C : Addr) : Sp := fun vs H Q E => ∃ (a : Addr) (hs : List I2) (v : V) (n : String), vs = [.ref a, v] ∧ PL H a hs ∧ HB hs ∧ (Oth H v n ∨ ∃ a xs, v = .ref a ∧ H a = some (.lst xs) ∧ n = "list") ∧ n ≠ "int" ∧ ∀ H', Same H H' → E (.ref C) none H'
theorem calx_leftP (T : Top K mg) (TX : TopX K mg C1 C2 C3 C4) : CalX P w K mg base 4 "left" (spTwoP C3) := by
  have c_check_heaps : C8.Cal P w K mg base 3 "check_heaps" (spCheck K) [] := cal_check_heaps T
  have cx_check_place : CalX P w K mg base 2 "check_place" (spPlaceX C3) := calx_check_place T TX
  refine T.d_left.calX sc_left (fun vs H Q E h => ?_) (fun f cdv A outer s H vs Q E hr h => ?_)
  · obtain ⟨a, hs, v, n, rfl, _⟩ := h
    rfl
  · obtain ⟨a, hs, v, n, rfl, ha, hb, o, hn, q⟩ := h
    refine ⟨_, (pss_cons (ps_expr (C8.pe_c c_check_heaps hr (by decide) (by rfl) (pa_cons (pv 0) pa_nil)))
 (pss_cons (ps_expr (pe_cx cx_check_place hr (by decide) (by rfl) (fun σ => passAt (takes_of rfl rfl rfl rfl) σ) (pa_cons (pv 1) pa_nil))) (pss_cons ps_never (pss_one ps_never)))), ?_⟩
    refine ⟨_, rfl, _, _, rfl, ha.dp, hb.all, by rw [List.length_map]; have := hb.len; omega, fun H1 s1 => ?_⟩
    refine ⟨_, rfl, v, n, rfl, ?_, hn, fun H2 s2 => q H2 (s1.trans s2)⟩
    rcases o with o | ⟨b, xs, rfl, eb, rfl⟩
    · exact .inl (o.mono s1)
    · exact .inr ⟨b, xs, rfl, s1 _ _ eb, rfl⟩
theorem calx_gaveP (T : Top K mg) (TX : TopX K mg C1 C2 C3 C4) : CalX P w K mg base 4 "gave" (spTwoP C3) := by
  have c_check_heaps : C8.Cal P w K mg base 3 "check_heaps" (spCheck K) [] := cal_check_heaps T
  have cx_check_place : CalX P w K mg base 2 "check_place" (spPlaceX C3) := calx_check_place T TX
  refine T.d_gave.calX sc_gave (fun vs H Q E h => ?_) (fun f cdv A outer s H vs Q E hr h => ?_)
  · obtain ⟨a, hs, v, n, rfl, _⟩ := h
    rfl
  · obtain ⟨a, hs, v, n, rfl, ha, hb, o, hn, q⟩ := h
    refine ⟨_, (pss_cons (ps_expr (C8.pe_c c_check_heaps hr (by decide) (by rfl) (pa_cons (pv 0) pa_nil)))
 (pss_cons (ps_expr (pe_cx cx_check_place hr (by decide) (by rfl) (fun σ => passAt (takes_of rfl rfl rfl rfl) σ) (pa_cons (pv 1) pa_nil))) (pss_cons ps_never (pss_cons ps_never (pss_cons ps_never (pss_one ps_never)))))), ?_⟩
    refine ⟨_, rfl, _, _, rfl, ha.dp, hb.all, by rw [List.length_map]; have := hb.len; omega, fun H1 s1 => ?_⟩
    refine ⟨_, rfl, v, n, rfl, ?_, hn, fun H2 s2 => q H2 (s1.trans s2)⟩
    rcases o with o | ⟨b, xs, rfl, eb, rfl⟩
    · exact .inl (o.mono s1)
    · exact .inr ⟨b, xs, rfl, s1 _ _ eb, rfl⟩
end
end Wk
/-! law 7: the law's doors -/
namespace Wk
open PySem PySem.Spec PyProof.Rows L2 Spr
section
variable {P : Program} {w : World} {K : PySem.W.Frag} {mg : Str → Option Value} {base : Heap} {C1 C2 C3 C4 : Addr}
/-- heaps with too great a number -/
def Great (H : Hp) (v : V) : Prop := ∃ (a : Addr) (hs : List I2), v = .ref a ∧ PL H a hs ∧ HB hs ∧ hs.all okW = false
def spWrX (K : PySem.W.Frag) (C : Addr) : Sp := fun vs H Q E => ∃ v, vs = [v] ∧ (BadH K H v ∨ Great H v) ∧ ∀ H', Same H H' → E (.ref C) none H'
theorem calx_written (T : Top K mg) (TX : TopX K mg C1 C2 C3 C4) : CalX P w K mg base 4 "written" (spWrX K C2) := by
  obtain ⟨tM, gM⟩ := TX.k_MOST
  have cx_check_heaps : CalX P w K mg base 3 "check_heaps" (spCheckX K C2) := calx_check_heaps T TX
  have c_check_heaps : C8.Cal P w K mg base 3 "check_heaps" (spCheck K) [] := cal_check_heaps T
  refine T.d_written.calX sc_written (fun vs H Q E h => ?_) (fun f cdv A outer s H vs Q E hr h => ?_)
  · obtain ⟨v, rfl, _⟩ := h
    rfl
  · obtain ⟨v, rfl, bad | ⟨a, hs, rfl, ha, hb, hok⟩, q⟩ := h
    · refine ⟨_, (pss_cons (ps_expr (pe_cx cx_check_heaps hr (by decide) (by rfl) (fun σ => passAt (takes_of rfl rfl rfl rfl) σ) (pa_cons (pv 0) pa_nil))) (pss_cons ps_never (pss_cons ps_never (pss_one ps_never)))), ?_⟩
      exact ⟨_, rfl, v, rfl, bad, q⟩
    · refine ⟨_, (pss_cons (ps_expr (C8.pe_c c_check_heaps hr (by decide) (by rfl) (pa_cons (pv 0) pa_nil)))
 (pss_cons (ps_if (pt_not (pt_val (pe_callB (cr_all rfl) (by rfl) T.m_all (by decide +kernel) (pa_cons (pe_lc (own := [("place", 1), ("count", 2)]) (g := (gTup K 2 (gCons (gName 1) (gCons (gName 2) gNil)))) rfl sc_written.nd (pi_list (pv 0)) (blkOk_by (own := [("place", 1), ("count", 2)]) (N := ["heaps", "place", "count"]) (sc := defScope st_written) (by decide +kernel)) (fun _ _ _ _ _ => (pg_tup rfl (pgs_cons (pg_name (i := 1) sc_written.nd rfl (Or.inl rfl)) (pgs_cons (pg_name (i := 2) sc_written.nd rfl (Or.inl rfl)) pgs_nil)))) (fun _ _ _ _ _ => pts_nil) (fun _ _ _ _ _ => (pe_and (pe_cmpR op_lt (pe_callB call_abs (by rfl) T.m_abs (by decide +kernel) (pa_cons (pv 1) pa_nil)) (pe_glob (v := .int 1000000000000000000000000000000000000000000000000000000000000) rfl gM ⟨_, rfl⟩) (nomark _)) (pe_one (pe_cmpR op_lt (pv 2) (pe_glob (v := .int 1000000000000000000000000000000000000000000000000000000000000) rfl gM ⟨_, rfl⟩) (nomark _)))))) pa_nil))))
 (pss_one (ps_raise rfl (takes_of rfl rfl rfl rfl) (pmk_own PySem.F.excBase_ValueError TX.x_BadHeaps.xP TX.x_BadHeaps.gP TX.x_BadHeaps.kP (raises_own TX.x_BadHeaps.bP TX.x_BadHeaps.tP) (by exact rfl))))
 pss_nil) (pss_cons ps_never (pss_one ps_never)))), ?_⟩
      have hl := hb.len
      refine ⟨_, rfl, _, _, rfl, ha.dp, hb.all, by rw [List.length_map]; omega, fun H1 s1 => ?_⟩
      refine nx_mk ?_
      refine q_ifb (b := true) ?_ (fun _ H2 s2 => q H2 (s1.trans s2)) (fun z => nomatch z)
      have e : (hs.map okW).all id = false := by
        rw [List.all_map]
        exact hok
      refine Evl.et_is (Evl.et_not (Evl.et_B (ev_allL (bs := hs.map okW) ?_))) (by rw [e]; rfl)
      rw [List.map_map]
      exact el_lcP0 (K := K) (V.bl ∘ okW) (evq_var rfl (ha.mono s1)) (by omega) (fun _ _ => rfl) fun x _ => Evl.ev_andV (Evl.ev_op (ev_abs (Evl.ev_var rfl)) Evl.ev_c Evl.rv_I0) fun _ => Evl.ev_op (Evl.ev_var rfl) Evl.ev_c Evl.rv_I0
/-- what a door of the law is handed, told by number: no heaps at each, too great ones at the last -/
def spHeapsD (K : PySem.W.Frag) (C : Addr) : Sp := fun vs H Q E => ∃ (d : Int) (v : V), vs = [.int d, v] ∧ (BadH K H v ∨ d = 4 ∧ Great H v) ∧ ∀ H', Same H H' → E (.ref C) none H'
theorem calx_with_heaps (T : Top K mg) (TX : TopX K mg C1 C2 C3 C4) : CalX P w K mg base 5 "_law_with_heaps" (spHeapsD K C2) := by
  have cx_spread : CalX P w K mg base 4 "spread" (spCheckX K C2) := calx_spread T TX
  have cx_all_gave : CalX P w K mg base 4 "all_gave" (spCheckX K C2) := calx_all_gave T TX
  have cx_left : CalX P w K mg base 4 "left" (spTwoX K C2) := calx_left T TX
  have cx_gave : CalX P w K mg base 4 "gave" (spTwoX K C2) := calx_gave T TX
  have cx_written : CalX P w K mg base 4 "written" (spWrX K C2) := calx_written T TX
  refine T.d__law_with_heaps.calX sc__law_with_heaps (fun vs H Q E h => ?_) (fun f cdv A outer s H vs Q E hr h => ?_)
  · obtain ⟨d, v, rfl, _⟩ := h
    rfl
  · obtain ⟨d, v, rfl, hv, q⟩ := h
    refine ⟨_, (pss_cons (ps_if (pt_cmpR op_lt (pv 0) pe_int (nomark _))
 (pss_one (ps_ret (pe_ifExp (pt_cmpR op_eq (pv 0) pe_int (nomark _)) (pe_cx cx_spread hr (by decide) (by rfl) (fun σ => passAt (takes_of rfl rfl rfl rfl) σ) (pa_cons (pv 1) pa_nil)) (pe_ifExp (pt_cmpR op_eq (pv 0) pe_int (nomark _)) (pe_cx cx_left hr (by decide) (by rfl) (fun σ => passAt (takes_of rfl rfl rfl rfl) σ) (pa_cons (pv 1) (pa_cons pe_non pa_nil))) (pe_cx cx_gave hr (by decide) (by rfl) (fun σ => passAt (takes_of rfl rfl rfl rfl) σ) (pa_cons (pv 1) (pa_cons pe_str pa_nil)))))))
 pss_nil)
 (pss_one (ps_ret (pe_ifExp (pt_cmpR op_eq (pv 0) pe_int (nomark _)) (pe_cx cx_all_gave hr (by decide) (by rfl) (fun σ => passAt (takes_of rfl rfl rfl rfl) σ) (pa_cons (pv 1) pa_nil)) (pe_cx cx_written hr (by decide) (by rfl) (fun σ => passAt (takes_of rfl rfl rfl rfl) σ) (pa_cons (pv 1) pa_nil)))))), ?_⟩
    refine q_when (c := d < 3) (Evl.et_test (Evl.ev_op (Evl.ev_var rfl) Evl.ev_c Evl.rv_I0)) (fun c H1 s1 => ?_) (fun c H1 s1 => ?_)
    · have bad : BadH K H v := by
        rcases hv with b | ⟨e, _⟩
        · exact b
        · omega
      refine Evl.et_test (Evl.ev_op (Evl.ev_var rfl) Evl.ev_c rv_eqI) H1 (Same.refl _) _ fun H2 s2 => ite2 (fun _ => ?_) (fun _ => ?_)
      · exact ⟨_, rfl, v, rfl, bad.mono (s1.trans s2), fun H' s' => q H' ((s1.trans s2).trans s')⟩
      · refine Evl.et_test (Evl.ev_op (Evl.ev_var rfl) Evl.ev_c rv_eqI) H2 (Same.refl _) _ fun H3 s3 => ite2 (fun _ => ?_) (fun _ => ?_)
        · exact ⟨_, rfl, v, _, rfl, bad.mono ((s1.trans s2).trans s3), fun H' s' => q H' (((s1.trans s2).trans s3).trans s')⟩
        · exact ⟨_, rfl, v, _, rfl, bad.mono ((s1.trans s2).trans s3), fun H' s' => q H' (((s1.trans s2).trans s3).trans s')⟩
    · refine Evl.et_test (Evl.ev_op (Evl.ev_var rfl) Evl.ev_c rv_eqI) H1 (Same.refl _) _ fun H2 s2 => ite2 (fun e => ?_) (fun _ => ?_)
      · have bad : BadH K H v := by
          rcases hv with b | ⟨e4, _⟩
          · exact b
          · subst e4
            cases e
        exact ⟨_, rfl, v, rfl, bad.mono (s1.trans s2), fun H' s' => q H' ((s1.trans s2).trans s')⟩
      · refine ⟨_, rfl, v, rfl, ?_, fun H' s' => q H' ((s1.trans s2).trans s')⟩
        rcases hv with b | ⟨_, a, hs, e, ha, r⟩
        · exact .inl (b.mono (s1.trans s2))
        · exact .inr ⟨a, hs, e, ha.mono (s1.trans s2), r⟩
/-- no place -/
def NoP (H : Hp) (v : V) : Prop := ∃ n, (Oth H v n ∨ ∃ a xs, v = .ref a ∧ H a = some (.lst xs) ∧ n = "list") ∧ n ≠ "int"
theorem NoP.mono {H H' : Hp} (s : Same H H') {v : V} (h : NoP H v) : NoP H' v := by
  obtain ⟨n, o | ⟨a, xs, rfl, e, rfl⟩, hn⟩ := h
  · exact ⟨n, .inl (o.mono s), hn⟩
  · exact ⟨_, .inr ⟨a, xs, rfl, s _ _ e, rfl⟩, hn⟩
def spPlaceD (C : Addr) : Sp := fun vs H Q E => ∃ (d : Int) (v : V), vs = [.int d, v] ∧ NoP H v ∧ ∀ H', Same H H' → E (.ref C) none H'
theorem hb05 : HB [((0 : Int), (5 : Int))] := HB.small (by decide +kernel)
theorem calx_with_place (T : Top K mg) (TX : TopX K mg C1 C2 C3 C4) : CalX P w K mg base 5 "_law_with_place" (spPlaceD C3) := by
  have cx_left : CalX P w K mg base 4 "left" (spTwoP C3) := calx_leftP T TX
  have cx_gave : CalX P w K mg base 4 "gave" (spTwoP C3) := calx_gaveP T TX
  refine T.d__law_with_place.calX sc__law_with_place (fun vs H Q E h => ?_) (fun f cdv A outer s H vs Q E hr h => ?_)
  · obtain ⟨d, v, rfl, _⟩ := h
    rfl
  · obtain ⟨d, v, rfl, hv, q⟩ := h
    refine ⟨_, (pss_one (ps_ret (pe_ifExp (pt_cmpR op_eq (pv 0) pe_int (nomark _)) (pe_cx cx_left hr (by decide) (by rfl) (fun σ => passAt (takes_of rfl rfl rfl rfl) σ) (pa_cons (pe_lst (pa_cons (pe_tup (pa_cons pe_int (pa_cons pe_int pa_nil))) pa_nil)) (pa_cons (pv 1) pa_nil))) (pe_cx cx_gave hr (by decide) (by rfl) (fun σ => passAt (takes_of rfl rfl rfl rfl) σ) (pa_cons (pe_lst (pa_cons (pe_tup (pa_cons pe_int (pa_cons pe_int pa_nil))) pa_nil)) (pa_cons (pv 1) pa_nil)))))), ?_⟩
    refine Evl.et_test (Evl.ev_op (Evl.ev_var rfl) Evl.ev_c rv_eqI) H (Same.refl _) _ fun H2 s2 => ite2 (fun e => ?_) (fun _ => ?_)
    · refine ⟨(by show 2 ≤ sizeLine; decide), fun t nt => ⟨(by show 1 ≤ sizeLine; decide), fun p np => ?_⟩⟩
      have s3 := (same_new (o := .tup [.int 0, .int 5]) nt).trans (same_new (o := .lst [.ref t]) np)
      have hp : PL (upd (upd H2 t (.tup [.int 0, .int 5])) p (.lst [.ref t])) p [(0, 5)] := ⟨[.ref t], upd_same, .cons ⟨t, rfl, same_new np _ _ upd_same⟩ .nil⟩
      obtain ⟨n, o, hn⟩ := hv.mono (s2.trans s3)
      exact ⟨_, rfl, p, _, v, n, rfl, hp, hb05, o, hn, fun H' s' => q H' ((s2.trans s3).trans s')⟩
    · refine ⟨(by show 2 ≤ sizeLine; decide), fun t nt => ⟨(by show 1 ≤ sizeLine; decide), fun p np => ?_⟩⟩
      have s3 := (same_new (o := .tup [.int 0, .int 5]) nt).trans (same_new (o := .lst [.ref t]) np)
      have hp : PL (upd (upd H2 t (.tup [.int 0, .int 5])) p (.lst [.ref t])) p [(0, 5)] := ⟨[.ref t], upd_same, .cons ⟨t, rfl, same_new np _ _ upd_same⟩ .nil⟩
      obtain ⟨n, o, hn⟩ := hv.mono (s2.trans s3)
      exact ⟨_, rfl, p, _, v, n, rfl, hp, hb05, o, hn, fun H' s' => q H' ((s2.trans s3).trans s')⟩
end
end Wk
/-! law 7: _law_told, _law_all -/
namespace Wk
open PySem PySem.Spec PyProof.Rows L2 Spr
/-- a def that may raise, at its address -/
structure HeldX (P : Program) (w : World) (K : PySem.W.Frag) (mg : Str → Option Value) (base : Heap) (k : Nat) (f : Addr) (sp : Sp) : Prop where
  ex : ∃ (fd : FuncData) (ps : List Str), FnOk P w K mg base (L2.CX P w) k f fd ps sp ∧ PySem.W.keepIn K (.ref f) = true ∧ Binds K fd ps []
/-- f(e, ..), f a local that holds a def that may raise -/
def tCallAS (P : Program) (w : World) (K : PySem.W.Frag) (mg : Str → Option Value) (base : Heap) (k i : Nat) (E : L2.St → XK) (t : TA) : TE := fun σ H Q => ∃ f sp, σ[i]? = some (some (.ref f)) ∧ HeldX P w K mg base k f sp ∧ t σ H fun vs H1 => sp vs H1 Q (E σ)
section
variable {X : Cx} {E : L2.St → XK} {x : Str} {p pos : Pos} {e : Expr} {es : List Expr} {t : TA} {k j i : Nat}
theorem pe_callAS (hr : Room j X.A) (hk : k ≤ j) (hN : X.N[i]? = some x) (hv : Vis X.env.scope x) (hx : ∀ σ, PassesAt (L2.CX X.prog X.w) X σ (E σ)) (ha : PA X (e :: es) t)
    (hdb : (x == ("__debug__" : Str)) = false := by decide) (hcd : (x == ("__classdict__" : Str)) = false := by decide)
    (he : starEach (e :: es) X.env = (false, eval e X.env) :: starEach es X.env := by rfl) (hpl : (backTo pos (starEach es X.env)).any (·.1) = false := by rfl) :
    PE X (.Call (.Name x p) (e :: es) [] pos) (tCallAS X.prog X.w X.K X.mg X.base k i E t) := by
  refine ⟨fun pins s σ H Q I h => ?_⟩
  obtain ⟨f, sp, hs, hh, ht⟩ := h
  obtain ⟨fd, ps, F, hkp, hb⟩ := hh.ex
  refine wpAny_Call_Name_kw (thn ((pe_var (pos := p) hN hv hdb hcd).run pins s σ H (fun v H1 => v = .ref f ∧ H1 = H) I ⟨.ref f, hs, rfl, rfl⟩) fun u s1 ⟨v, H1, I1, r1, q1⟩ => ?_)
  obtain ⟨rfl, rfl⟩ := q1
  cases r1
  refine PySem.W.callWith_K (h₀ := X.base) I.ok.mod.kin hkp (thn (ha.run pos pins s1 σ _ _ I1 ht) fun us s2 ⟨vs, H2, I2, r, q⟩ => ⟨I2.kIn, ?_⟩) he hpl
  exact run_fnS F (hr.mono hk) hb (hx σ) I2 r q
theorem pss_had {b : List Stmt} {cls : Value} {d : Option Addr} {T : Addr → TS} (h : ∀ Dc, (cls = .ref Dc ∧ d = none ∧ ExcC X.K Dc) → PSs X b (T Dc)) : PSs X b (fun D σ H => ∃ Dc, (cls = .ref Dc ∧ d = none ∧ ExcC X.K Dc) ∧ T Dc D σ H) :=
  ⟨fun pins s σ H D I ⟨Dc, hh, q⟩ => (h Dc hh).run pins s σ H D I q⟩
theorem had_z {Dc : Addr} {cls : Value} {d : Option Addr} {oe : Obj} {Y : Prop} (h : cls = .ref Dc ∧ d = none ∧ Y) (z : Zc cls d oe) : Zc (.ref Dc) none oe := by
  rw [← h.1, ← h.2.1]
  exact z
end
section
variable {P : Program} {w : World} {K : PySem.W.Frag} {mg : Str → Option Value} {base : Heap} {C1 C2 C3 C4 : Addr}
theorem exc_c {x : Str} {C : Addr} (e : ExcAt K mg x C) (TX : TopX K mg C1 C2 C3 C4) : ExcC K C := ⟨e.hg, e.hk, e.bP, e.dP, e.ha, TX.sN, TX.sT, e.hm⟩
theorem kit_own {C D : Addr} {b : Bool} {x : Str} (e : ExcAt K mg x D) (h : PySem.W.subIn K (.ref C) (.ref D) = some b) (hb : C = D → b = true) : PySem.W.kitOne K (.ref C) (.ref D) = some b := by
  unfold PySem.W.kitOne
  by_cases c : C = D
  · rw [if_pos (by rw [c]; simp), hb c]
  · rw [if_neg (by simpa using c)]
    show (if ((PySem.W.clsIn K D).isSome && PySem.W.typeIn K (.ref D) == some (.type "type")) = true then _ else _) = _
    have e1 : (PySem.W.clsIn K D).isSome = true := e.iP
    rw [e1, e.tP, h]
    rfl
theorem kit_val {C : Addr} (h : PySem.W.subIn K (.ref C) (.type "ValueError") = some true) : PySem.W.kitOne K (.ref C) (.type "ValueError") = some true := by
  unfold PySem.W.kitOne
  rw [if_neg (by simp)]
  show (if PySem.W.kitMeta "ValueError" = true then PySem.W.subIn K (.ref C) (.type "ValueError") else none) = _
  rw [if_pos (by decide +kernel), h]
theorem sub_ne {C D : Addr} (h1 : PySem.W.subIn K (.ref C) (.ref C) = some true) (h2 : PySem.W.subIn K (.ref C) (.ref D) = some false) : C = D → false = true := fun e => by
  rw [← e, h1] at h2
  cases h2
/-- what is asked of a caught error -/
structure Ask (K : PySem.W.Frag) (C1 C2 C3 C4 Dc : Addr) (b : Bool) : Prop where
  c : ExcC K Dc
  x : PySem.W.exmOne K (.ref Dc) (.ref C1) = some true
  a2 : PySem.W.kitOne K (.ref Dc) (.ref C2) = some b
  a3 : PySem.W.kitOne K (.ref Dc) (.ref C3) = some (!b)
  a4 : PySem.W.kitOne K (.ref Dc) (.ref C4) = some false
  av : PySem.W.kitOne K (.ref Dc) (.type "ValueError") = some true
theorem ask_of (TX : TopX K mg C1 C2 C3 C4) (b : Bool) : Ask K C1 C2 C3 C4 (if b then C2 else C3) b := by
  cases b with
  | true =>
    exact ⟨exc_c TX.x_BadHeaps TX, PySem.W.exm_ref TX.x_HeapError.bP TX.x_HeapError.dP TX.x_HeapError.tP TX.s_BadHeaps_HeapError, kit_own TX.x_BadHeaps TX.s_BadHeaps_BadHeaps (fun _ => rfl),
      kit_own TX.x_BadPlace TX.s_BadHeaps_BadPlace (sub_ne TX.s_BadHeaps_BadHeaps TX.s_BadHeaps_BadPlace), kit_own TX.x_BadText TX.s_BadHeaps_BadText (sub_ne TX.s_BadHeaps_BadHeaps TX.s_BadHeaps_BadText), kit_val TX.x_BadHeaps.vP⟩
  | false =>
    exact ⟨exc_c TX.x_BadPlace TX, PySem.W.exm_ref TX.x_HeapError.bP TX.x_HeapError.dP TX.x_HeapError.tP TX.s_BadPlace_HeapError, kit_own TX.x_BadHeaps TX.s_BadPlace_BadHeaps (sub_ne TX.s_BadPlace_BadPlace TX.s_BadPlace_BadHeaps),
      kit_own TX.x_BadPlace TX.s_BadPlace_BadPlace (fun _ => rfl), kit_own TX.x_BadText TX.s_BadPlace_BadText (sub_ne TX.s_BadPlace_BadPlace TX.s_BadPlace_BadText), kit_val TX.x_BadPlace.vP⟩
/-- which class: b for BadHeaps, else BadPlace -/
def flags (b : Bool) : List V := [.bl b, .bl (!b), .bl false, .bl true]
def spTold (P : Program) (w : World) (K : PySem.W.Frag) (mg : Str → Option Value) (base : Heap) (C2 C3 : Addr) : Sp := fun vs H Q _ => ∃ (f : Addr) (one other : V) (sp : Sp) (b : Bool), vs = [.ref f, one, other] ∧ HeldX P w K mg base 5 f sp ∧
  (∀ (Q' : VK) (E' : XK), (∀ H', Same H H' → E' (.ref (if b then C2 else C3)) none H') → sp [one, other] H Q' E') ∧ ∀ H' p, Same H H' → H p = none → H' p = some (.lst (flags b)) → Q (.ref p) H'
/-- what the suite does: the caught error is at a, of the class Dc -/
def tSu (K : PySem.W.Frag) (C2 C3 C4 Dc a : Addr) : TS :=
  tSeq (tAsg (tLst (tCons (tCB (rIsE K Dc a) (tCons (tVar 3) (tCons (tC (.ref C2)) tNil))) (tCons (tCB (rIsE K Dc a) (tCons (tVar 3) (tCons (tC (.ref C3)) tNil))) (tCons (tCB (rIsE K Dc a) (tCons (tVar 3) (tCons (tC (.ref C4)) tNil))) tNil)))) (gName 4))
    (tRet (tOp rCat (tVar 4) (tLst (tCons (tCB (rIsE K Dc a) (tCons (tVar 3) (tCons (tC (.ty "ValueError")) tNil))) tNil))))
def tsTold (K : PySem.W.Frag) (C2 C3 C4 : Addr) : Addr → Value → Option Addr → TS := fun a cls d Dn σ H => ∃ Dc, (cls = .ref Dc ∧ d = none ∧ ExcC K Dc) ∧ tSu K C2 C3 C4 Dc a Dn σ H
theorem cal_told (T : Top K mg) (TX : TopX K mg C1 C2 C3 C4) : C8.Cal P w K mg base 6 "_law_told" (spTold P w K mg base C2 C3) [] := by
  refine T.d__law_told.cal sc__law_told (fun vs H Q E h => ?_) (fun f cdv A outer s H vs Q E hr h => ?_)
  · obtain ⟨f, one, other, sp, b, rfl, _⟩ := h
    rfl
  · obtain ⟨f, one, other, sp, b, rfl, hh, hsp, q⟩ := h
    refine ⟨_, (pss_cons (ps_try_as (i := 3) (tb := fun W => tDrop (tCallAS P w K mg base 5 0 (WE W) (tCons (tVar 1) (tCons (tVar 2) tNil)))) (ts := tsTold K C2 C3 C4) rfl rfl sc__law_told.nd rfl rfl ⟨rfl, by decide, .inl TX.x_HeapError.gP⟩ takes0 (fun W pn xe tk _ => by exact (pss_one (ps_expr (pe_callAS (k := 5) (i := 0) hr (by decide) rfl (Or.inl rfl) (fun σ => passAt tk σ) (pa_cons (pv 1) (pa_cons (pv 2) pa_nil)))))) (fun a oe cls d pn hz hf => pss_had fun Dc h => by exact (pss_cons (ps_set (i := 4) sc__law_told.nd rfl (Or.inl rfl) (pe_lst (pa_cons (pe_callB (call_isE h.2.2 (had_z h hz) hf) (by rfl) T.m_isinstance (by decide +kernel) (pa_cons (pv 3) (pa_cons (pe_glob (v := .ref _) rfl TX.x_BadHeaps.gP rfl) pa_nil))) (pa_cons (pe_callB (call_isE h.2.2 (had_z h hz) hf) (by rfl) T.m_isinstance (by decide +kernel) (pa_cons (pv 3) (pa_cons (pe_glob (v := .ref _) rfl TX.x_BadPlace.gP rfl) pa_nil))) (pa_cons (pe_callB (call_isE h.2.2 (had_z h hz) hf) (by rfl) T.m_isinstance (by decide +kernel) (pa_cons (pv 3) (pa_cons (pe_glob (v := .ref _) rfl TX.x_BadText.gP rfl) pa_nil))) pa_nil)))))
 (pss_one (ps_ret (pe_op op_cat (pv 4) (pe_lst (pa_cons (pe_callB (call_isE h.2.2 (had_z h hz) hf) (by rfl) T.m_isinstance (by decide +kernel) (pa_cons (pv 3) (pa_cons (pe_bltn (v := .ty "ValueError") (by rfl) T.m_ValueError (by decide +kernel) rfl) pa_nil))) pa_nil))))))))
 (pss_one (ps_ret (pe_lst pa_nil)))), ?_⟩
    have k := ask_of TX b
    generalize (if b then C2 else C3) = Dc at *
    refine ⟨f, sp, rfl, hh, _, rfl, _, rfl, hsp _ _ fun H1 s1 => ⟨true, k.x, fun _ e ne => ⟨Dc, ⟨rfl, rfl, k.c⟩, ?_⟩, fun z => nomatch z⟩⟩
    refine ⟨_, rfl, _, .ref C2, b, rfl, fun u r => r, k.a2, _, rfl, _, .ref C3, !b, rfl, fun u r => r, k.a3, _, rfl, _, .ref C4, false, rfl, fun u r => r, k.a4, (by show 3 ≤ sizeLine; decide), fun p np => ?_⟩
    refine ⟨_, rfl, _, rfl, _, .type "ValueError", true, rfl, fun u r => r, k.av, (by show 1 ≤ sizeLine; decide), fun p2 np2 => ⟨p, p2, _, _, rfl, rfl, same_new np2 _ _ upd_same, upd_same, (by show 4 ≤ sizeLine; decide), fun p3 np3 => ?_⟩⟩
    have s2 := ((same_new (o := .lst [.bl b, .bl (!b), .bl false]) np).trans (same_new (o := .lst [.bl true]) np2)).trans (same_new (o := .lst (flags b)) np3)
    exact q _ p3 (s1.trans s2) (s1.free (((same_new (o := .lst [.bl b, .bl (!b), .bl false]) np).trans (same_new (o := .lst [.bl true]) np2)).free np3)) upd_same
end
end Wk
/-! law 7: _law_all -/
namespace Wk
open PySem PySem.Spec PyProof.Rows L2 Spr
section
variable {P : Program} {w : World} {K : PySem.W.Frag} {mg : Str → Option Value} {base : Heap} {C1 C2 C3 C4 : Addr}
def flagsD (b : Bool) : List PyData := [.bool b, .bool (!b), .bool false, .bool true]
theorem dp_flags {H : Hp} (b : Bool) : DpAll K H (flags b) (flagsD b) := .cons (.bl _) (.cons (.bl _) (.cons (.bl _) (.cons (.bl _) .nil)))
theorem sh_flags (b : Bool) : SeqAt.shaped (.list (flagsD b)) = true := by cases b <;> decide +kernel
theorem eqv_flags (b : Bool) : PyData.eqv (.list (flagsD b)) (.list (flagsD b)) = true := by
  show PyData.eqvAll (flagsD b) (flagsD b) = true
  cases b <;> decide +kernel
/-- told(ask, one, other) == due -/
theorem ev_told {σ : L2.St} {H : Hp} {i j k l : Nat} {f e : Addr} {one other : V} {sp : Sp} {b : Bool} (hi : σ[i]? = some (some (.ref f))) (hj : σ[j]? = some (some one)) (hk : σ[k]? = some (some other)) (hl : σ[l]? = some (some (.ref e)))
    (ee : H e = some (.lst (flags b))) (hh : HeldX P w K mg base 5 f sp) (hsp : ∀ (H0 : Hp), Same H H0 → ∀ (Q' : VK) (E' : XK), (∀ H', Same H0 H' → E' (.ref (if b then C2 else C3)) none H') → sp [one, other] H0 Q' E') :
    Evl.Ev (tOp (rEqD K) (tCall (spTold P w K mg base C2 C3) [] C8.E0 (tCons (tVar i) (tCons (tVar j) (tCons (tVar k) tNil)))) (tVar l)) σ H (.bl true) := fun H0 s0 Q q =>
  ⟨_, hi, _, hj, _, hk, f, one, other, sp, b, rfl, hh, hsp H0 s0, fun H' p s1 np ep => ⟨_, hl, .list (flagsD b), .list (flagsD b), .lst (SqL.of ep) (dp_flags b), .lst (SqL.of (s1 _ _ (s0 _ _ ee))) (dp_flags b), sh_flags b, sh_flags b, by
    rw [eqv_flags]
    exact q H' s1⟩⟩
def spAll7 (P : Program) (w : World) (K : PySem.W.Frag) (mg : Str → Option Value) (base : Heap) (C2 C3 : Addr) : Sp := fun vs H Q _ => ∃ (f d t e : Addr) (ds : List Int) (xs : List V) (sp : Sp) (b : Bool), vs = [.ref f, .ref d, .ref t, .ref e] ∧ HeldX P w K mg base 5 f sp ∧
  H d = some (.lst (ds.map V.int)) ∧ H t = some (.lst xs) ∧ xs.length ≤ 40000 ∧ H e = some (.lst (flags b)) ∧
  (∀ i ∈ ds, ∀ v ∈ xs, ∀ (H0 : Hp), Same H H0 → ∀ (Q' : VK) (E' : XK), (∀ H', Same H0 H' → E' (.ref (if b then C2 else C3)) none H') → sp [.int i, v] H0 Q' E') ∧ ∀ H', Same H H' → Q (.bl true) H'
theorem cal_all7 (T : Top K mg) (TX : TopX K mg C1 C2 C3 C4) : C8.Cal P w K mg base 7 "_law_all" (spAll7 P w K mg base C2 C3) [] := by
  have c__law_told : C8.Cal P w K mg base 6 "_law_told" (spTold P w K mg base C2 C3) [] := cal_told T TX
  refine T.d__law_all.cal sc__law_all (fun vs H Q E h => ?_) (fun f cdv A outer s H vs Q E hr h => ?_)
  · obtain ⟨f, d, t, e, ds, xs, sp, b, rfl, _⟩ := h
    rfl
  · obtain ⟨f, d, t, e, ds, xs, sp, b, rfl, hh, hd, ht, hxl, he, hsp, q⟩ := h
    refine ⟨_, (pss_cons (ps_for PassesOwn.never rfl (pi_list (pv 1)) (pg_name (i := 4) sc__law_all.nd rfl (Or.inr rfl))
 (pss_one (ps_if (pt_not (pt_val (pe_callB (cr_all rfl) (by rfl) T.m_all (by decide +kernel) (pa_cons (pe_lc (own := [("_law_thing", 5)]) (g := (gName 5)) rfl sc__law_all.nd (pi_list (pv 2)) (blkOk_by (own := [("_law_thing", 5)]) (N := ["_law_ask", "_law_doors", "_law_things", "_law_due", "_law_door", "_law_thing"]) (sc := defScope st__law_all) (by decide +kernel)) (fun _ _ _ _ _ => (pg_name (i := 5) sc__law_all.nd rfl (Or.inl rfl))) (fun _ _ _ _ _ => pts_nil) (fun _ _ _ _ _ => (pe_cmpR (show OpR _ _ (rEqD K) from (op_eqD hr.units)) (C8.pe_c c__law_told hr (by decide) (by rfl) (pa_cons (pv 0) (pa_cons (pv 4) (pa_cons (pv 5) pa_nil)))) (pv 3) (nomark _)))) pa_nil))))
 (pss_one (ps_ret pe_bl))
 pss_nil)))
 (pss_one (ps_ret pe_bl))), ?_⟩
    refine q_forV (xs := ds.map V.int) (a := d) rfl hd (fun σ => ∃ y4, σ = [some (.ref f), some (.ref d), some (.ref t), some (.ref e), y4, none]) ⟨none, rfl⟩ ?_ ?_
    · rintro v mv B σ' H1 sB ⟨y4, rfl⟩ s1
      obtain ⟨i, mi, rfl⟩ := List.mem_map.mp mv
      have s01 := sB.trans s1
      refine if_b (b := false) ?_ (fun z => nomatch z) (fun _ H2 s2 => ⟨⟨_, rfl⟩, s1.trans s2⟩)
      refine Evl.et_is (Evl.et_not (Evl.et_B (ev_allL (bs := xs.map fun _ => true) ?_))) ?_
      · rw [List.map_map]
        exact el_lcI (K := K) (V.bl ∘ fun _ => true) (evi_var rfl (s01 _ _ ht)) hxl (fun _ => rfl) fun x mx => ev_told (P := P) (w := w) (mg := mg) (base := base) (C2 := C2) (C3 := C3) (sp := sp) (b := b) rfl rfl rfl rfl (s01 _ _ he) hh fun H0 s0 => hsp i mi x mx H0 (s01.trans s0)
      · have e1 : (xs.map fun _ => true).all id = true := by
          rw [List.all_map, List.all_eq_true]
          intro _ _
          rfl
        rw [e1]
        rfl
    · rintro σ' H1 ⟨y4, rfl⟩ s1
      exact q H1 s1
end
end Wk
/-! the walk, part J: data of any form made here, beside one list at p that changes -/
namespace Wk
open PySem PySem.Spec PyProof.Rows L2 Spr
/-- all but what is at p -/
def wo (p : Addr) (H : Hp) : Hp := fun b => if b = p then none else H b
theorem wo_ne {p b : Addr} {H : Hp} (h : b ≠ p) : wo p H b = H b := if_neg h
theorem wo_same {p : Addr} {H : Hp} : Same (wo p H) H := fun b o e => by
  unfold wo at e
  split at e
  · cases e
  · exact e
theorem wo_mono {p : Addr} {H H' : Hp} (s : Same H H') : Same (wo p H) (wo p H') := fun b o e => by
  unfold wo at e ⊢
  split at e
  · cases e
  · next h => rw [if_neg h]; exact s _ _ e
theorem wo_upd {p : Addr} {H : Hp} {o : HO} : wo p (upd H p o) = wo p H := by
  funext b
  unfold wo
  split
  · rfl
  · next h => exact upd_ne h
theorem wo_get {p t : Addr} {H : Hp} {o o' : HO} (hp : H p = some o') (ht : H t = none) : wo p (upd H t o) t = some o := by
  have h : t ≠ p := fun z => by rw [z, hp] at ht; cases ht
  rw [wo_ne h, upd_same]
section
variable {K : PySem.W.Frag} {σ : L2.St} {H : Hp} {te ta tb tl : TE} {tr : TA} {p : Addr} {ys : List V}
def EvD (K : PySem.W.Frag) (p : Addr) (te : TE) (σ : L2.St) (H : Hp) (d : PyData) : Prop := ∀ H1, Same H H1 → ∀ Q : VK, (∀ v H2, Same H1 H2 → Dp K (wo p H2) v d → Q v H2) → te σ H1 Q
def EvDs (K : PySem.W.Frag) (p : Addr) (tr : TA) (σ : L2.St) (H : Hp) (ds : List PyData) : Prop := ∀ H1, Same H H1 → ∀ Q : List V → Hp → Prop, (∀ vs H2, Same H1 H2 → DpAll K (wo p H2) vs ds → Q vs H2) → tr σ H1 Q
theorem evd_v {v : V} {d : PyData} (h : Evl.Ev te σ H v) (o : ∀ H', Dp K H' v d) : EvD K p te σ H d := fun H1 s Q k => h H1 s _ fun H2 s2 => k v H2 s2 (o _)
theorem evd_i {i : Int} (h : Evl.Ev te σ H (.int i)) : EvD K p te σ H (.int i) := evd_v h fun _ => .int i
theorem evds_nil : EvDs K p tNil σ H [] := fun H1 s Q k => k [] H1 (Same.refl H1) .nil
theorem evds_cons {d : PyData} {ds : List PyData} (h1 : EvD K p te σ H d) (h2 : EvDs K p tr σ H ds) : EvDs K p (tCons te tr) σ H (d :: ds) := fun H1 s Q k =>
  h1 H1 s _ fun v H2 s2 dv => h2 H2 (Same.trans s s2) _ fun vs H3 s3 dvs => k _ H3 (Same.trans s2 s3) (.cons (dp_mono (wo_mono s3) dv) dvs)
theorem evd_tup {ds : List PyData} (hp : H p = some (.lst ys)) (h : EvDs K p tr σ H ds) (hl : ds.length ≤ 1000) : EvD K p (tTup tr) σ H (.tuple ds) := fun H1 s Q k =>
  h H1 s _ fun vs H2 s2 dvs => ⟨Evl.sz_of (by rw [dp_len dvs]; omega), fun t nt => k _ _ (Same.trans s2 (same_new nt)) (.tup (SqT.of (wo_get ((Same.trans s s2) _ _ hp) nt)) (dpAll_mono (wo_mono (same_new nt)) dvs))⟩
theorem evd_lst {ds : List PyData} (hp : H p = some (.lst ys)) (h : EvDs K p tr σ H ds) (hl : ds.length ≤ 1000) : EvD K p (tLst tr) σ H (.list ds) := fun H1 s Q k =>
  h H1 s _ fun vs H2 s2 dvs => ⟨Evl.sz_of (by rw [dp_len dvs]; omega), fun t nt => k _ _ (Same.trans s2 (same_new nt)) (.lst (SqL.of (wo_get ((Same.trans s s2) _ _ hp) nt)) (dpAll_mono (wo_mono (same_new nt)) dvs))⟩
/-! what is no heaps, no place -/
def EvB (K : PySem.W.Frag) (p : Addr) (te : TE) (σ : L2.St) (H : Hp) : Prop := ∀ H1, Same H H1 → ∀ Q : VK, (∀ v H2, Same H1 H2 → BadH K (wo p H2) v → Q v H2) → te σ H1 Q
def EvBs (K : PySem.W.Frag) (p : Addr) (tr : TA) (σ : L2.St) (H : Hp) (n : Nat) : Prop := ∀ H1, Same H H1 → ∀ Q : List V → Hp → Prop, (∀ vs H2, Same H1 H2 → vs.length = n → (∀ x ∈ vs, BadH K (wo p H2) x) → Q vs H2) → tr σ H1 Q
theorem evb_list {ds : List PyData} (h : EvD K p te σ H (.list ds)) (e : ds.all isHeapD = false) (hl : ds.length < 40000 := by decide) : EvB K p te σ H := fun H1 s Q k => h H1 s _ fun v H2 s2 dv => k v H2 s2 (.inr ⟨ds, dv, e, hl⟩)
theorem evb_oth {v : V} {n : String} (h : Evl.Ev te σ H v) (o : ∀ H', Oth H' v n) : EvB K p te σ H := fun H1 s Q k => h H1 s _ fun H2 s2 => k v H2 s2 (.inl ⟨n, o _⟩)
theorem evb_tup {ds : List PyData} (hp : H p = some (.lst ys)) (h : EvDs K p tr σ H ds) (hl : ds.length ≤ 1000) : EvB K p (tTup tr) σ H := fun H1 s Q k =>
  h H1 s _ fun vs H2 s2 dvs => ⟨Evl.sz_of (by rw [dp_len dvs]; omega), fun t nt => k _ _ (Same.trans s2 (same_new nt)) (.inl ⟨_, .tup (wo_get ((Same.trans s s2) _ _ hp) nt)⟩)⟩
theorem evb_dic (hp : H p = some (.lst ys)) : EvB K p tDNewK σ H := fun H1 s Q k => fun t nt => k _ _ (same_new nt) (.inl ⟨_, .dic (wo_get (s _ _ hp) nt)⟩)
theorem evbs_nil : EvBs K p tNil σ H 0 := fun H1 s Q k => k [] H1 (Same.refl H1) rfl fun _ m => nomatch m
theorem evbs_cons {n : Nat} (h1 : EvB K p te σ H) (h2 : EvBs K p tr σ H n) : EvBs K p (tCons te tr) σ H (n + 1) := fun H1 s Q k =>
  h1 H1 s _ fun v H2 s2 bv => h2 H2 (Same.trans s s2) _ fun vs H3 s3 hl bvs => k _ H3 (Same.trans s2 s3) (by rw [List.length_cons, hl]) fun x m => by
    rcases List.mem_cons.mp m with e | m
    · rw [e]; exact bv.mono (wo_mono s3)
    · exact bvs x m
def EvO (p : Addr) (te : TE) (σ : L2.St) (H : Hp) : Prop := ∀ H1, Same H H1 → ∀ Q : VK, (∀ v H2, Same H1 H2 → NoP (wo p H2) v → Q v H2) → te σ H1 Q
def EvOs (p : Addr) (tr : TA) (σ : L2.St) (H : Hp) (n : Nat) : Prop := ∀ H1, Same H H1 → ∀ Q : List V → Hp → Prop, (∀ vs H2, Same H1 H2 → vs.length = n → (∀ x ∈ vs, NoP (wo p H2) x) → Q vs H2) → tr σ H1 Q
theorem evo_oth {v : V} {n : String} (h : Evl.Ev te σ H v) (o : ∀ H', Oth H' v n) (hn : n ≠ "int") : EvO p te σ H := fun H1 s Q k => h H1 s _ fun H2 s2 => k v H2 s2 ⟨n, .inl (o _), hn⟩
theorem evo_tup {ds : List PyData} (hp : H p = some (.lst ys)) (h : EvDs K p tr σ H ds) (hl : ds.length ≤ 1000) : EvO p (tTup tr) σ H := fun H1 s Q k =>
  h H1 s _ fun vs H2 s2 dvs => ⟨Evl.sz_of (by rw [dp_len dvs]; omega), fun t nt => k _ _ (Same.trans s2 (same_new nt)) ⟨_, .inl (.tup (wo_get ((Same.trans s s2) _ _ hp) nt)), by decide⟩⟩
theorem evo_lst {ds : List PyData} (hp : H p = some (.lst ys)) (h : EvDs K p tr σ H ds) (hl : ds.length ≤ 1000) : EvO p (tLst tr) σ H := fun H1 s Q k =>
  h H1 s _ fun vs H2 s2 dvs => ⟨Evl.sz_of (by rw [dp_len dvs]; omega), fun t nt => k _ _ (Same.trans s2 (same_new nt)) ⟨_, .inr ⟨t, vs, rfl, wo_get ((Same.trans s s2) _ _ hp) nt, rfl⟩, by decide⟩⟩
theorem evo_dic (hp : H p = some (.lst ys)) : EvO p tDNewK σ H := fun H1 s Q k => fun t nt => k _ _ (same_new nt) ⟨_, .inl (.dic (wo_get (s _ _ hp) nt)), by decide⟩
theorem evos_nil : EvOs p tNil σ H 0 := fun H1 s Q k => k [] H1 (Same.refl H1) rfl fun _ m => nomatch m
theorem evos_cons {n : Nat} (h1 : EvO p te σ H) (h2 : EvOs p tr σ H n) : EvOs p (tCons te tr) σ H (n + 1) := fun H1 s Q k =>
  h1 H1 s _ fun v H2 s2 bv => h2 H2 (Same.trans s s2) _ fun vs H3 s3 hl bvs => k _ H3 (Same.trans s2 s3) (by rw [List.length_cons, hl]) fun x m => by
    rcases List.mem_cons.mp m with e | m
    · rw [e]; exact bv.mono (wo_mono s3)
    · exact bvs x m
/-! new lists of data -/
def EvDl (K : PySem.W.Frag) (p : Addr) (te : TE) (σ : L2.St) (H : Hp) (ds : List PyData) : Prop := ∀ H1, Same H H1 → ∀ Q : VK, (∀ q xs H2, H1 q = none → Same H1 H2 → H2 q = some (.lst xs) → DpAll K (wo p H2) xs ds → Q (.ref q) H2) → te σ H1 Q
theorem pts_wo {H : Hp} {ys : List V} (hp : H p = some (.lst ys)) : ∀ {xs : List V} {hs : List I2}, PTs H xs hs → PTs (wo p H) xs hs
  | _, _, .nil => .nil
  | _, _, .cons r t => by
    obtain ⟨a, rfl, e⟩ := r
    exact .cons ⟨a, rfl, by rw [wo_ne (ne_of e hp fun z => nomatch z)]; exact e⟩ (pts_wo hp t)
theorem evdl_of {m : List I2} (hp : H p = some (.lst ys)) (h : EvN te σ H m) : EvDl K p te σ H (m.map pairD) := fun H1 s Q k =>
  h H1 s _ fun q H2 nq s2 hq => by
    obtain ⟨xs, e, px⟩ := hq
    exact k q xs H2 nq s2 e (pts_wo ((Same.trans s s2) _ _ hp) px).dp
theorem evdl_one {i : Nat} {v : V} {d : PyData} (hi : σ[i]? = some (some v)) (dv : Dp K (wo p H) v d) : EvDl K p (tLst (tCons (tVar i) tNil)) σ H [d] := fun H1 s Q k =>
  ⟨v, hi, (by show 1 ≤ sizeLine; decide), fun q nq => k q [v] _ nq (same_new nq) upd_same (.cons (dp_mono (wo_mono (Same.trans s (same_new nq))) dv) .nil)⟩
theorem dpAll_app {H : Hp} : ∀ {xs ys : List V} {ds es : List PyData}, DpAll K H xs ds → DpAll K H ys es → DpAll K H (xs ++ ys) (ds ++ es)
  | _, _, _, _, .nil, h => h
  | _, _, _, _, .cons r t, h => .cons r (dpAll_app t h)
theorem evdl_cat {ds es : List PyData} (h1 : EvDl K p ta σ H ds) (h2 : EvDl K p tb σ H es) (hl : ds.length + es.length ≤ 100000) : EvDl K p (tOp rCat ta tb) σ H (ds ++ es) := fun H1 s Q k =>
  h1 H1 s _ fun q1 xs H2 n1 s2 e1 d1 => h2 H2 (Same.trans s s2) _ fun q2 zs H3 n2 s3 e2 d2 =>
    ⟨q1, q2, xs, zs, rfl, rfl, s3 _ _ e1, e2, Evl.sz_of (by rw [dp_len d1, dp_len d2]; exact hl), fun q nq => k q _ _ (Same.free (Same.trans s2 s3) nq) (Same.trans (Same.trans s2 s3) (same_new nq)) upd_same
      (dpAll_mono (wo_mono (same_new nq)) (dpAll_app (dpAll_mono (wo_mono s3) d1) d2))⟩
end
end Wk
/-! law 7: law -/
namespace Wk
open PySem PySem.Spec PyProof.Rows L2 Spr
theorem same_wo {H H' : Hp} {q : Addr} (h : H q = none) (s : Same H H') : Same H (wo q H') := fun b o e => by
  rw [wo_ne (ne_of_none e h)]
  exact s _ _ e
section
variable {K : PySem.W.Frag} {σ : L2.St} {H : Hp} {te ta tb tl : TE} {tr : TA} {tz : TS} {D : Ends} {p : Addr}
theorem mod_at {x y : Int} {Q : VK} (hy : 0 < y) (h : ∀ t, 0 ≤ t → t < y → Q (.int t) H) : rI (fun _ j => 0 < j) (fun i j => V.int (i % j)) (.int x) (.int y) H Q := ⟨x, y, rfl, rfl, hy, h _ (Int.emod_nonneg _ (by omega)) (Int.emod_lt_of_pos _ hy)⟩
theorem q_kept {i j : Nat} {m : List I2} {n : Int} (h1 : EvN ta σ H m) (h2 : Evl.Ev tb σ H (.int n)) (k : ∀ p H1, H p = none → Same H H1 → PL H1 p m → tz D ((σ.set i (some (.ref p))).set j (some (.int n))) H1) : tSeq (tPar i j (tCons ta (tCons tb tNil))) tz D σ H :=
  h1 H (Same.refl H) _ fun p H1 np s1 hp => h2 H1 s1 _ fun H2 s2 => ⟨_, _, rfl, k p H2 np (Same.trans s1 s2) (hp.mono s2)⟩
theorem q_bads {i n : Nat} (h : EvBs K p tr σ H n) (hl : n ≤ 1000) (k : ∀ q xs H1, H q = none → Same H H1 → H1 q = some (.lst xs) → xs.length = n → (∀ x ∈ xs, BadH K H1 x) → tz D (σ.set i (some (.ref q))) H1) : tSeq (tAsg (tLst tr) (gName i)) tz D σ H :=
  h H (Same.refl H) _ fun xs H1 s1 hn hb => ⟨Evl.sz_of (by omega), fun q nq => k q xs _ (Same.free s1 nq) (Same.trans s1 (same_new nq)) upd_same hn fun x m => ((hb x m).mono wo_same).mono (same_new nq)⟩
theorem q_bads2 {i n : Nat} {q0 : Addr} {xs0 : List V} (hv : σ[i]? = some (some (.ref q0))) (e0 : H q0 = some (.lst xs0)) (hb0 : ∀ x ∈ xs0, BadH K H x) (h : EvBs K p tr σ H n) (hl : xs0.length + n ≤ 1000)
    (k : ∀ q xs H1, H q = none → Same H H1 → H1 q = some (.lst xs) → xs.length = xs0.length + n → (∀ x ∈ xs, BadH K (wo q H1) x) → tz D (σ.set i (some (.ref q))) H1) : tSeq (tAsg (tOp rCat (tVar i) (tLst tr)) (gName i)) tz D σ H :=
  ⟨_, hv, h H (Same.refl H) _ fun xs H1 s1 hn hb => ⟨Evl.sz_of (by omega), fun q' nq' => by
    have s2 := same_new (o := .lst xs) nq'
    refine ⟨q0, q', xs0, xs, rfl, rfl, s2 _ _ (s1 _ _ e0), upd_same, Evl.sz_of (by omega), fun q nq => ?_⟩
    have s3 := same_new (o := .lst (xs0 ++ xs)) nq
    have w3 := same_wo nq s3
    refine k q _ _ (Same.free (Same.trans s1 s2) nq) (Same.trans (Same.trans s1 s2) s3) upd_same (by rw [List.length_append, hn]) fun x m => ?_
    rcases List.mem_append.mp m with m | m
    · exact (hb0 x m).mono (Same.trans (Same.trans s1 s2) w3)
    · exact ((hb x m).mono wo_same).mono (Same.trans s2 w3)⟩⟩
/-- (..)[k], the tuple's items told -/
theorem q_pick {j : Nat} {ds : List PyData} {k : Int} (h : EvD K p te σ H (.tuple ds)) (hi : Evl.Ev tb σ H (.int k)) (h0 : 0 ≤ k) (h1 : k < (ds.length : Int))
    (c : ∀ v d H1, Same H H1 → d ∈ ds → Dp K (wo p H1) v d → tz D (σ.set j (some v)) H1) : tSeq (tAsg (tOp (rIxT K) te tb) (gName j)) tz D σ H :=
  h H (Same.refl H) _ fun v H1 s1 dv => hi H1 s1 _ fun H2 s2 => by
    cases dv with
    | @tup t xs _ hT hx =>
    have lx := dp_len hx
    have hk : k.toNat < xs.length := by omega
    have hg : xs[k.toNat]? = some xs[k.toNat] := List.getElem?_eq_getElem hk
    obtain ⟨d, hd, dx⟩ := dpAll_get hx hg
    exact ⟨t, xs, k, xs[k.toNat], rfl, rfl, same_sqT (Same.trans wo_same s2) hT, at_of (j := k.toNat) (by omega) hg, c _ d H2 (Same.trans s1 s2) (List.mem_of_getElem? hd) (dp_mono (wo_mono s2) dx)⟩
end
section
variable {K : PySem.W.Frag} {σ : L2.St} {H : Hp} {te ta tb tl : TE} {tr : TA} {tu tz : TS} {D : Ends} {p : Addr}
/-- for m in (list, list, list, list) -/
theorem q_forN4 {t1 t2 t3 t4 : TE} {m1 m2 m3 m4 : List I2} {i : Nat} (h1 : EvN t1 σ H m1) (h2 : EvN t2 σ H m2) (h3 : EvN t3 σ H m3) (h4 : EvN t4 σ H m4) (J : L2.St → Prop) (h0 : J σ)
    (hs : ∀ m ∈ [m1, m2, m3, m4], ∀ p B σ' H1, Same H B → PL B p m → J σ' → Same B H1 → tu (tn J B { D with nx := tz D }) (σ'.set i (some (.ref p))) H1)
    (hd : ∀ σ' H1, J σ' → Same H H1 → tz D σ' H1) : tSeq (tFor (iTup K (tTup (tCons t1 (tCons t2 (tCons t3 (tCons t4 tNil)))))) (gName i) tu) tz D σ H :=
  h1 H (Same.refl H) _ fun p1 H1 _ s1 hp1 => h2 H1 s1 _ fun p2 H2 _ s2 hp2 => h3 H2 (Same.trans s1 s2) _ fun p3 H3 _ s3 hp3 => h4 H3 (Same.trans (Same.trans s1 s2) s3) _ fun p4 H4 _ s34 hp4 => ⟨(by show 4 ≤ sizeLine; decide), fun t nt => by
    have s4 := same_new (o := .tup [.ref p1, .ref p2, .ref p3, .ref p4]) nt
    have s04 : Same H (upd H4 t (.tup [.ref p1, .ref p2, .ref p3, .ref p4])) := Same.trans (Same.trans (Same.trans (Same.trans s1 s2) s3) s34) s4
    refine ⟨t, rfl, ⟨_, SqT.of upd_same⟩, for_tup (K := K) (a := t) (xs := [.ref p1, .ref p2, .ref p3, .ref p4]) (fun k σ' H' => J σ' ∧ Same (upd H4 t (.tup [.ref p1, .ref p2, .ref p3, .ref p4])) H') ⟨h0, Same.refl _⟩ (fun k σ' H' _ p => SqT.of (p.2 _ _ upd_same)) (fun k x σ' H' hk p => ?_) (fun σ' H' p => hd σ' H' p.1 (Same.trans s04 p.2))⟩
    have hx : ∃ m ∈ [m1, m2, m3, m4], ∃ q, x = .ref q ∧ PL (upd H4 t (.tup [.ref p1, .ref p2, .ref p3, .ref p4])) q m := by
      match k, hk with
      | 0, hk => cases hk; exact ⟨m1, by simp, p1, rfl, hp1.mono (((Same.trans s2 s3).trans s34).trans s4)⟩
      | 1, hk => cases hk; exact ⟨m2, by simp, p2, rfl, hp2.mono ((Same.trans s3 s34).trans s4)⟩
      | 2, hk => cases hk; exact ⟨m3, by simp, p3, rfl, hp3.mono (Same.trans s34 s4)⟩
      | 3, hk => cases hk; exact ⟨m4, by simp, p4, rfl, hp4.mono s4⟩
    obtain ⟨m, mm, q, rfl, hq⟩ := hx
    exact hs m mm q _ σ' H' s04 hq p.1 p.2⟩
theorem cons_at {R : List V → Hp → Prop} (h : te σ H fun x H1 => tr σ H1 fun xs H2 => R (x :: xs) H2) : tCons te tr σ H R := h
theorem lst_os {n : Nat} {Q : VK} (h : EvOs p tr σ H n) (hl : n ≤ 1000) (k : ∀ t us H2, H t = none → Same H H2 → H2 t = some (.lst us) → us.length = n → (∀ x ∈ us, NoP H2 x) → Q (.ref t) H2) : tLst tr σ H Q :=
  h H (Same.refl H) _ fun us H1 s1 hn ho => ⟨Evl.sz_of (by omega), fun t nt => k t us _ (Same.free s1 nt) (Same.trans s1 (same_new nt)) upd_same hn fun x m => ((ho x m).mono wo_same).mono (same_new nt)⟩
theorem ev_written {hs : List I2} (h : EvQ ta σ H hs) (hb : HB hs) (hok : hs.all okW = true) : Evl.Ev (tCall spWritten [] C8.E0 (tCons ta tNil)) σ H (.str (wText hs)) := fun H0 s0 Q q =>
  h H0 s0 _ fun a H1 s1 ha => ⟨a, hs, rfl, ha, hb, hok, fun H' s' => q H' (Same.trans s1 s')⟩
end
theorem most_wd : Wd 200 most := by
  show most.natAbs < 2 ^ 200
  decide +kernel
theorem rgc7 (L : Nat) (h : L < 64) : ∃ n, n < 64 ∧ RgC 0 (L : Int) (1 + (L : Int) / 6) n := by
  have h1 : ∀ L : Nat, L < 64 → (Builtin.Range.small 0 (L : Int) (1 + (L : Int) / 6) = true ∧ Builtin.Range.rangeSize 0 (L : Int) (1 + (L : Int) / 6) = (((Builtin.Range.rangeSize 0 (L : Int) (1 + (L : Int) / 6)).toNat : Nat) : Int) ∧ (Builtin.Range.rangeSize 0 (L : Int) (1 + (L : Int) / 6)).toNat < 64) := by decide +kernel
  obtain ⟨a, b, c⟩ := h1 L h
  exact ⟨_, c, by omega, by omega, a, b⟩
section
variable {P : Program} {w : World} {K : PySem.W.Frag} {mg : Str → Option Value} {base : Heap} {C C1 C2 C3 C4 : Addr}
def spLaw (K : PySem.W.Frag) : Sp := fun vs H Q _ => ∃ (a : Addr) (ns : List Int), vs = [.ref a] ∧ SqL K H a (ns.map V.int) ∧ ns.length ≤ 63 ∧ ∀ H', Q (.bl true) H'
theorem ok_law {f : Addr} {fd : FuncData} (F : L2.Fun K "law" "law" st_law f fd) (T : Top K mg) (TS : Top_Spread K mg C) (TX : TopX K mg C1 C2 C3 C4) : FnOk P w K mg base CX0 8 f fd ["_law_script"] (spLaw K) := by
  obtain ⟨tM, gM⟩ := TX.k_MOST
  obtain ⟨fH, fdH, psH, FH, hmH, kH, bH⟩ := (calx_with_heaps (P := P) (w := w) (base := base) T TX).ex
  obtain ⟨fP, fdP, psP, FP, hmP, kP, bP⟩ := (calx_with_place (P := P) (w := w) (base := base) T TX).ex
  have c__law_cell_at : C8.Cal P w K mg base 1 "_law_cell_at" (spCell K) [] := cal_cell_at T
  have c__law_heaps : C8.Cal P w K mg base 2 "_law_heaps" (spHeaps K) [] := cal_heaps T
  have c__law_told : C8.Cal P w K mg base 6 "_law_told" (spTold P w K mg base C2 C3) [] := cal_told T TX
  have c__law_all : C8.Cal P w K mg base 7 "_law_all" (spAll7 P w K mg base C2 C3) [] := cal_all7 T TX
  have c_written : C8.Cal P w K mg base 4 "written" spWritten [] := cal_written T gM
  refine F.ok sc_law (fun vs H Q E h => ?_) (fun cdv A outer s H vs Q E hr h => ?_)
  · obtain ⟨a, ns, rfl, _⟩ := h
    rfl
  · obtain ⟨a, ns, rfl, hS, hlen, q⟩ := h
    refine ⟨_, (pss_cons (ps_set (i := 1) sc_law.nd rfl (Or.inl rfl) (pe_op op_mod (C8.pe_c c__law_cell_at hr (by decide) (by rfl) (pa_cons (pv 0) (pa_cons pe_int pa_nil))) (pe_op op_pow pe_int pe_int)))
 (pss_cons (ps_set (i := 2) sc_law.nd rfl (Or.inl rfl) (C8.pe_c c__law_heaps hr (by decide) (by rfl) (pa_cons (pv 0) pa_nil)))
 (pss_cons (ps_par (i := 3) (j := 4) (by rfl) sc_law.nd rfl rfl (by decide) rfl rfl (pa_cons (pe_callTy call_list_of (by rfl) T.m_list (by decide +kernel) (pa_cons (pv 2) pa_nil)) (pa_cons (pe_callB call_len_seq (by rfl) T.m_len (by decide +kernel) (pa_cons (pv 2) pa_nil)) pa_nil)) (by rfl))
 (pss_cons (ps_set (i := 5) sc_law.nd rfl (Or.inl rfl) (pe_lst (pa_cons pe_non (pa_cons (pe_tup pa_nil) (pa_cons (pe_tup (pa_cons (pe_tup (pa_cons pe_int (pa_cons pe_int pa_nil))) pa_nil)) (pa_cons pe_str (pa_cons pe_dnewK (pa_cons pe_int (pa_cons (pe_lst (pa_cons pe_non pa_nil)) (pa_cons (pe_lst (pa_cons pe_int pa_nil)) (pa_cons (pe_lst (pa_cons (pe_tup (pa_cons pe_int pa_nil)) pa_nil)) (pa_cons (pe_lst (pa_cons (pe_tup (pa_cons pe_int (pa_cons pe_int (pa_cons pe_int pa_nil)))) pa_nil)) (pa_cons (pe_lst (pa_cons (pe_lst (pa_cons pe_int (pa_cons pe_int pa_nil))) pa_nil)) (pa_cons (pe_lst (pa_cons (pe_tup (pa_cons pe_int (pa_cons (pe_un un_neg pe_int) pa_nil))) pa_nil)) (pa_cons (pe_lst (pa_cons (pe_tup (pa_cons pe_int (pa_cons (pe_op op_sub (pe_un un_neg pe_int) (pv 1)) pa_nil))) pa_nil)) pa_nil)))))))))))))))
 (pss_cons (ps_set (i := 5) sc_law.nd rfl (Or.inl rfl) (pe_op op_cat (pv 5) (pe_lst (pa_cons (pe_lst (pa_cons (pe_tup (pa_cons pe_bl (pa_cons pe_int pa_nil))) pa_nil)) (pa_cons (pe_lst (pa_cons (pe_tup (pa_cons pe_int (pa_cons pe_bl pa_nil))) pa_nil)) (pa_cons (pe_lst (pa_cons (pe_tup (pa_cons pe_str (pa_cons pe_int pa_nil))) pa_nil)) (pa_cons (pe_lst (pa_cons (pe_tup (pa_cons pe_int (pa_cons pe_str pa_nil))) pa_nil)) (pa_cons (pe_lst (pa_cons (pe_tup (pa_cons pe_non (pa_cons pe_int pa_nil))) pa_nil)) (pa_cons (pe_lst (pa_cons (pe_tup (pa_cons pe_int (pa_cons pe_non pa_nil))) pa_nil)) (pa_cons (pe_lst (pa_cons (pe_tup (pa_cons pe_int (pa_cons pe_int pa_nil))) (pa_cons (pe_tup (pa_cons pe_int (pa_cons (pe_un un_neg pe_int) pa_nil))) pa_nil))) pa_nil))))))))))
 (pss_cons (ps_for PassesOwn.never rfl (pi_range3 (by rfl) T.m_range (pa_cons pe_int (pa_cons (pv 4) (pa_cons (pe_op op_add pe_int (pe_op op_fdiv (pv 4) pe_int)) pa_nil)))) (pg_name (i := 6) sc_law.nd rfl (Or.inl rfl))
 (pss_cons (ps_set (i := 7) sc_law.nd rfl (Or.inl rfl) (pe_ix ix_tup (pe_tup (pa_cons pe_non (pa_cons (pe_tup (pa_cons pe_int pa_nil)) (pa_cons (pe_tup (pa_cons pe_int (pa_cons (pe_op op_sub (pe_un un_neg pe_int) (pv 1)) pa_nil))) (pa_cons (pe_lst (pa_cons pe_int (pa_cons pe_int pa_nil))) (pa_cons (pe_tup (pa_cons pe_int (pa_cons pe_bl pa_nil))) pa_nil)))))) (pe_op op_mod (pv 6) pe_int) (fun _ _ => rfl)))
 (pss_one (ps_expr (pe_bm PySem.F.plainAttrs_list PySem.F.slot_list_append PySem.F.type_list_append mt_append (pv 5) (pa_cons (pe_op op_cat (pe_op op_cat (pe_slice sl_list (pv 2) po_none (po_some (pv 6))) (pe_lst (pa_cons (pv 7) pa_nil))) (pe_slice sl_list (pv 2) (po_some (pe_op op_add (pv 6) pe_int)) po_none)) pa_nil))))))
 (pss_cons (ps_if (pt_not (pt_val (C8.pe_c c__law_all hr (by decide) (by rfl) (pa_cons (pe_glob (v := .ref fH) rfl hmH rfl) (pa_cons (pe_listRg rfl (by rfl) T.m_list (prg_1 (by rfl) T.m_range pe_int)) (pa_cons (pv 5) (pa_cons (pe_lst (pa_cons pe_bl (pa_cons pe_bl (pa_cons pe_bl (pa_cons pe_bl pa_nil))))) pa_nil)))))))
 (pss_one (ps_ret pe_bl))
 pss_nil)
 (pss_cons (ps_if (pt_not (pt_val (C8.pe_c c__law_all hr (by decide) (by rfl) (pa_cons (pe_glob (v := .ref fP) rfl hmP rfl) (pa_cons (pe_lst (pa_cons pe_int (pa_cons pe_int pa_nil))) (pa_cons (pe_lst (pa_cons pe_non (pa_cons pe_str (pa_cons pe_bl (pa_cons (pe_lst (pa_cons pe_int pa_nil)) (pa_cons (pe_tup (pa_cons pe_int pa_nil)) (pa_cons pe_dnewK pa_nil))))))) (pa_cons (pe_lst (pa_cons pe_bl (pa_cons pe_bl (pa_cons pe_bl (pa_cons pe_bl pa_nil))))) pa_nil)))))))
 (pss_one (ps_ret pe_bl))
 pss_nil)
 (pss_cons (ps_for PassesOwn.never rfl (pi_tup (pe_tup (pa_cons (pe_lst (pa_cons (pe_tup (pa_cons (pe_op op_pow pe_int pe_int) (pa_cons pe_int pa_nil))) pa_nil)) (pa_cons (pe_lst (pa_cons (pe_tup (pa_cons (pe_op op_sub (pe_un un_neg (pe_op op_pow pe_int pe_int)) (pv 1)) (pa_cons pe_int pa_nil))) pa_nil)) (pa_cons (pe_lst (pa_cons (pe_tup (pa_cons pe_int (pa_cons (pe_op op_pow pe_int pe_int) pa_nil))) pa_nil)) (pa_cons (pe_lst (pa_cons (pe_tup (pa_cons pe_int (pa_cons pe_int pa_nil))) (pa_cons (pe_tup (pa_cons pe_int (pa_cons (pe_op op_add (pe_op op_pow pe_int pe_int) (pv 1)) pa_nil))) pa_nil))) pa_nil)))))) (pg_name (i := 8) sc_law.nd rfl (Or.inl rfl))
 (pss_one (ps_if (pt_cmpR (op_neD hr.units) (C8.pe_c c__law_told hr (by decide) (by rfl) (pa_cons (pe_glob (v := .ref fH) rfl hmH rfl) (pa_cons pe_int (pa_cons (pv 8) pa_nil)))) (pe_lst (pa_cons pe_bl (pa_cons pe_bl (pa_cons pe_bl (pa_cons pe_bl pa_nil))))) (nomark _))
 (pss_one (ps_ret pe_bl))
 pss_nil)))
 (pss_one (ps_ret (pe_and (pe_cmpR (op_eqD hr.units) (pv 2) (pv 3) (nomark _)) (pe_one (pe_cmpR op_eq (C8.pe_c c_written hr (by decide) (by rfl) (pa_cons (pe_lst (pa_cons (pe_tup (pa_cons (pe_op op_sub pe_int (pe_op op_pow pe_int pe_int)) (pa_cons pe_int pa_nil))) pa_nil)) pa_nil)) (pe_op op_add_str (pe_op op_add_str pe_str (pe_op op_mulS pe_str pe_int)) pe_str) (nomark _))))))))))))))), ?_⟩
    -- far
    refine ⟨_, rfl, a, ns, 0, rfl, hS, by decide, fun i0 => ⟨_, _, rfl, rfl, ⟨by decide, by decide, by decide⟩, ?_⟩⟩
    refine mod_at (by decide +kernel) fun fr f0 f1 => ?_
    have e6 : (10 : Int) ^ (6 : Int).toNat = 1000000 := by decide +kernel
    rw [e6] at f1
    refine nx_mk ?_
    -- heaps
    refine ⟨_, rfl, a, ns, rfl, hS, hlen, fun hs H1 b hx s1 nb hb => ?_⟩
    refine nx_mk ?_
    have hB := hx.hb
    have hl := hx.len
    obtain ⟨xsb, eb, _⟩ := id hb
    -- kept, many
    refine q_kept (evn_list (K := K) (evq_var rfl hb)) (ev_lenQ (K := K) (evq_var rfl hb)) fun e H2 ne s2 he => ?_
    have hb2 := hb.mono s2
    have eb2 := s2 _ _ eb
    have em1 : Evl.Ev (tUn (rU fun i => V.int (-i)) (tC (V.int 1))) [some (.ref a), some (.int fr), some (.ref b), some (.ref e), some (.int (hs.length : Int)), none, none, none, none] H2 (.int (-1)) := Evl.ev_un Evl.ev_c Evl.ru_neg
    have neg : decide (0 ≤ -1 - fr) = false := decide_eq_false (by omega)
    -- bad
    refine q_bads (K := K) (p := b) (n := 13) (evbs_cons (evb_oth Evl.ev_c fun _ => .non) (evbs_cons (evb_tup eb2 evds_nil (by decide)) (evbs_cons (evb_tup eb2 (evds_cons (evd_tup eb2 (evds_cons (evd_i Evl.ev_c) (evds_cons (evd_i Evl.ev_c) evds_nil)) (by decide)) evds_nil) (by decide))
      (evbs_cons (evb_oth Evl.ev_c fun _ => .str _) (evbs_cons (evb_dic eb2) (evbs_cons (evb_oth Evl.ev_c fun _ => .int _)
      (evbs_cons (evb_list (evd_lst eb2 (evds_cons (evd_v Evl.ev_c fun _ => .non) evds_nil) (by decide)) rfl)
      (evbs_cons (evb_list (evd_lst eb2 (evds_cons (evd_i Evl.ev_c) evds_nil) (by decide)) rfl)
      (evbs_cons (evb_list (evd_lst eb2 (evds_cons (evd_tup eb2 (evds_cons (evd_i Evl.ev_c) evds_nil) (by decide)) evds_nil) (by decide)) rfl)
      (evbs_cons (evb_list (evd_lst eb2 (evds_cons (evd_tup eb2 (evds_cons (evd_i Evl.ev_c) (evds_cons (evd_i Evl.ev_c) (evds_cons (evd_i Evl.ev_c) evds_nil))) (by decide)) evds_nil) (by decide)) rfl)
      (evbs_cons (evb_list (evd_lst eb2 (evds_cons (evd_lst eb2 (evds_cons (evd_i Evl.ev_c) (evds_cons (evd_i Evl.ev_c) evds_nil)) (by decide)) evds_nil) (by decide)) rfl)
      (evbs_cons (evb_list (evd_lst eb2 (evds_cons (evd_tup eb2 (evds_cons (evd_i Evl.ev_c) (evds_cons (evd_i em1) evds_nil)) (by decide)) evds_nil) (by decide)) rfl)
      (evbs_cons (evb_list (evd_lst eb2 (evds_cons (evd_tup eb2 (evds_cons (evd_i Evl.ev_c) (evds_cons (evd_i (i := -1 - fr) (Evl.ev_op em1 (Evl.ev_var rfl) Evl.rv_I0)) evds_nil)) (by show 2 ≤ 1000; decide)) evds_nil) (by show 1 ≤ 1000; decide)) (by show (decide (0 ≤ -1 - fr) && true) = false; rw [neg]; rfl) (by show 1 < 40000; decide))
      evbs_nil))))))))))))) (by decide) fun q4 xs4 H4 nq4 s4 e4 l4 b4 => ?_
    have eb4 := s4 _ _ eb2
    have em4 : Evl.Ev (tUn (rU fun i => V.int (-i)) (tC (V.int 1))) [some (.ref a), some (.int fr), some (.ref b), some (.ref e), some (.int (hs.length : Int)), some (.ref q4), none, none, none] H4 (.int (-1)) := Evl.ev_un Evl.ev_c Evl.ru_neg
    refine q_bads2 (K := K) (p := b) (n := 7) rfl e4 b4 (evbs_cons (evb_list (evd_lst eb4 (evds_cons (evd_tup eb4 (evds_cons (evd_v Evl.ev_c fun _ => .bl _) (evds_cons (evd_i Evl.ev_c) evds_nil)) (by decide)) evds_nil) (by decide)) rfl)
      (evbs_cons (evb_list (evd_lst eb4 (evds_cons (evd_tup eb4 (evds_cons (evd_i Evl.ev_c) (evds_cons (evd_v Evl.ev_c fun _ => .bl _) evds_nil)) (by decide)) evds_nil) (by decide)) rfl)
      (evbs_cons (evb_list (evd_lst eb4 (evds_cons (evd_tup eb4 (evds_cons (evd_v Evl.ev_c fun _ => .str _) (evds_cons (evd_i Evl.ev_c) evds_nil)) (by show 2 ≤ 1000; decide)) evds_nil) (by show 1 ≤ 1000; decide)) rfl (by show 1 < 40000; decide))
      (evbs_cons (evb_list (evd_lst eb4 (evds_cons (evd_tup eb4 (evds_cons (evd_i Evl.ev_c) (evds_cons (evd_v Evl.ev_c fun _ => .str _) evds_nil)) (by show 2 ≤ 1000; decide)) evds_nil) (by show 1 ≤ 1000; decide)) rfl (by show 1 < 40000; decide))
      (evbs_cons (evb_list (evd_lst eb4 (evds_cons (evd_tup eb4 (evds_cons (evd_v Evl.ev_c fun _ => .non) (evds_cons (evd_i Evl.ev_c) evds_nil)) (by decide)) evds_nil) (by decide)) rfl)
      (evbs_cons (evb_list (evd_lst eb4 (evds_cons (evd_tup eb4 (evds_cons (evd_i Evl.ev_c) (evds_cons (evd_v Evl.ev_c fun _ => .non) evds_nil)) (by decide)) evds_nil) (by decide)) rfl)
      (evbs_cons (evb_list (evd_lst eb4 (evds_cons (evd_tup eb4 (evds_cons (evd_i Evl.ev_c) (evds_cons (evd_i Evl.ev_c) evds_nil)) (by decide)) (evds_cons (evd_tup eb4 (evds_cons (evd_i Evl.ev_c) (evds_cons (evd_i em4) evds_nil)) (by decide)) evds_nil)) (by decide)) rfl)
      evbs_nil))))))) (by omega) fun q5 xs5 H5 nq5 s5 e5 l5 b5 => ?_
    have s25 := s4.trans s5
    have nq2 : H2 q5 = none := s4.free nq5
    obtain ⟨n, hn64, rg⟩ := rgc7 hs.length (by omega)
    -- for at in range(..)
    refine ⟨_, rfl, _, rfl, _, _, rfl, rfl, ⟨by decide, by decide⟩, _, _, rfl, rfl, 0, (hs.length : Int), 1 + (hs.length : Int) / 6, n, rfl, rg, for_rangeC (lo := 0) (c := 1 + (hs.length : Int) / 6) (n := n) (fun i σ H' => ∃ (xs : List V) (y6 y7 : Option V), σ = [some (.ref a), some (.int fr), some (.ref b), some (.ref e), some (.int (hs.length : Int)), some (.ref q5), y6, y7, none] ∧ Same H2 H' ∧ H' q5 = some (.lst xs) ∧ xs.length ≤ 20 + i ∧ ∀ x ∈ xs, BadH K (wo q5 H') x)
      ⟨xs5, none, none, rfl, s25, e5, by omega, b5⟩ ?_ ?_⟩
    · rintro i σ H6 hi ⟨xs, y6, y7, rfl, s6, e6, l6, b6⟩
      have hb6 := hb2.mono s6
      show tSeq _ _ _ _ _
      generalize eat : 0 + (i : Int) * (1 + (hs.length : Int) / 6) = at_
      have em6 : ∀ H', Evl.Ev (tUn (rU fun i => V.int (-i)) (tC (V.int 1))) [some (.ref a), some (.int fr), some (.ref b), some (.ref e), some (.int (hs.length : Int)), some (.ref q5), some (.int at_), y7, none] H' (.int (-1)) := fun _ => Evl.ev_un Evl.ev_c Evl.ru_neg
      -- strange
      refine q_pick (K := K) (p := q5) (k := at_ % 5) (ds := [.none, .tuple [.int 0], .tuple [.int 0, .int (-1 - fr)], .list [.int 0, .int 1], .tuple [.int 0, .bool true]])
        (evd_tup e6 (evds_cons (evd_v Evl.ev_c fun _ => .non) (evds_cons (evd_tup e6 (evds_cons (evd_i Evl.ev_c) evds_nil) (by decide)) (evds_cons (evd_tup e6 (evds_cons (evd_i Evl.ev_c) (evds_cons (evd_i (i := -1 - fr) (Evl.ev_op (em6 _) (Evl.ev_var rfl) Evl.rv_I0)) evds_nil)) (by show 2 ≤ 1000; decide))
          (evds_cons (evd_lst e6 (evds_cons (evd_i Evl.ev_c) (evds_cons (evd_i Evl.ev_c) evds_nil)) (by decide)) (evds_cons (evd_tup e6 (evds_cons (evd_i Evl.ev_c) (evds_cons (evd_v Evl.ev_c fun _ => .bl _) evds_nil)) (by decide)) evds_nil))))) (by show 5 ≤ 1000; decide))
        (Evl.ev_op (Evl.ev_var rfl) Evl.ev_c (Evl.rv_I (by decide))) (Int.emod_nonneg _ (by decide)) (by show at_ % 5 < 5; exact Int.emod_lt_of_pos _ (by decide)) fun v d H7 s7 md dv => ?_
      have hd : isHeapD d = false := by
        simp only [List.mem_cons, List.not_mem_nil, or_false] at md
        rcases md with rfl | rfl | rfl | rfl | rfl
        · rfl
        · rfl
        · exact neg
        · rfl
        · rfl
      have e7 := s7 _ _ e6
      have hb7 := hb6.mono s7
      have c1 := cutI_len hs none (some at_)
      have c2 := cutI_len hs (some (at_ + 1)) none
      -- append
      refine ⟨_, rfl, .inl ⟨rfl, _, SqL.of e7⟩, ?_⟩
      refine evdl_cat (K := K) (p := q5) (evdl_cat (evdl_of e7 (evn_sl (evq_var rfl hb7) Evl.eo_none (Evl.eo_some (Evl.ev_var rfl)))) (evdl_one rfl dv) (by rw [List.length_map, List.length_singleton]; omega)) (evdl_of e7 (evn_sl (evq_var rfl hb7) (Evl.eo_some (Evl.ev_op (Evl.ev_var rfl) Evl.ev_c Evl.rv_I0)) Evl.eo_none)) (by rw [List.length_append, List.length_map, List.length_map, List.length_singleton]; omega) H7 (Same.refl _) _ fun q8 xs8 H8 nq8 s8 e8 d8 => ?_
      have e78 := s8 _ _ e7
      refine ⟨q5, xs, _, rfl, rfl, e78, Evl.sz_lt (by omega), ?_⟩
      refine ⟨xs ++ [.ref q8], _, _, rfl, same_mut ((s6.trans s7).trans s8) nq2, upd_same, ?_, fun x m => ?_⟩
      · rw [List.length_append, List.length_singleton]
        omega
      · rw [wo_upd]
        rcases List.mem_append.mp m with m | m
        · exact (b6 x m).mono (wo_mono (s7.trans s8))
        · rw [List.mem_singleton.mp m]
          have q85 : q8 ≠ q5 := fun z => by rw [z, e7] at nq8; cases nq8
          refine .inr ⟨_, .lst (SqL.of (by rw [wo_ne q85]; exact e8)) d8, ?_, ?_⟩
          · rw [List.all_append, List.all_append]
            show ((_ && (isHeapD d && true)) && _) = false
            rw [hd]
            simp
          · rw [List.length_append, List.length_append, List.length_map, List.length_map, List.length_singleton]
            omega
    · rintro σ H6 ⟨xs, y6, y7, rfl, s6, e6, l6, b6⟩
      have bad : ∀ x ∈ xs, BadH K H6 x := fun x m => (b6 x m).mono wo_same
      have hb6 := hb2.mono s6
      have he6 := he.mono s6
      refine nx_mk ?_
      -- the doors, no heaps
      refine q_whenb (b := false) ?_ (fun z => nomatch z) (fun _ H7 s7 => ?_)
      · refine Evl.et_is (Evl.et_not (Evl.et_B (b := true) ?_)) rfl
        refine fun H0 s0 Q' q' => ⟨5, rfl, RgOk.of_le (by decide) (by decide) (by decide) (by decide), fun d nd => ⟨_, rfl, (by show 4 ≤ sizeLine; decide), fun e' ne' => ?_⟩⟩
        have t1 := same_new (o := .lst (rgV 0 5)) nd
        have t2 := same_new (o := .lst (flags true)) ne'
        exact ⟨fH, d, q5, e', [0, 1, 2, 3, 4], xs, spHeapsD K C2, true, rfl, ⟨fdH, psH, FH, kH, bH⟩, t2 _ _ upd_same, t2 _ _ (t1 _ _ (s0 _ _ e6)), by omega, upd_same, fun i _ v mv H8 s8 Q2 E2 hE => ⟨i, v, rfl, .inl ((bad v mv).mono (((Same.trans s0 t1).trans t2).trans s8)), hE⟩, fun H' s' => q' H' ((Same.trans t1 t2).trans s')⟩
      have s67 := s6.trans s7
      have eb7 := s67 _ _ eb2
      -- the doors, no place
      refine q_whenb (b := false) ?_ (fun z => nomatch z) (fun _ H8 s8 => ?_)
      · refine Evl.et_is (Evl.et_not (Evl.et_B (b := true) ?_)) rfl
        refine fun H0 s0 Q' q' => ⟨(by show 2 ≤ sizeLine; decide), fun d nd => ?_⟩
        have t1 := same_new (o := .lst [.int 0, .int 1]) nd
        have hO : EvOs b (tCons (tC .non) (tCons (tC (.str "1")) (tCons (tC (.bl true)) (tCons (tLst (tCons (tC (.int 1)) tNil)) (tCons (tTup (tCons (tC (.int 0)) tNil)) (tCons tDNewK tNil)))))) [some (.ref a), some (.int fr), some (.ref b), some (.ref e), some (.int (hs.length : Int)), some (.ref q5), y6, y7, none] H7 6 := evos_cons (p := b) (evo_oth Evl.ev_c (fun _ => .non) (by decide)) (evos_cons (evo_oth Evl.ev_c (fun _ => .str _) (by decide)) (evos_cons (evo_oth Evl.ev_c (fun _ => .bl _) (by decide)) (evos_cons (evo_lst (K := K) eb7 (evds_cons (evd_i Evl.ev_c) evds_nil) (by decide)) (evos_cons (evo_tup (K := K) eb7 (evds_cons (evd_i Evl.ev_c) evds_nil) (by decide)) (evos_cons (evo_dic eb7) evos_nil)))))
        have hO' : EvOs b _ _ (upd H0 d (.lst [.int 0, .int 1])) 6 := fun H9 s9 => hO H9 (Same.trans (Same.trans s0 t1) s9)
        refine cons_at (lst_os hO' (by decide) fun t us H9 nt t2 et hn ho => ⟨(by show 4 ≤ sizeLine; decide), fun e' ne' => ?_⟩)
        have t4 := same_new (o := .lst (flags false)) ne'
        exact ⟨fP, d, t, e', [0, 1], us, spPlaceD C3, false, rfl, ⟨fdP, psP, FP, kP, bP⟩, t4 _ _ (t2 _ _ upd_same), t4 _ _ et, by omega, upd_same, fun i _ v mv H8 s8 Q2 E2 hE => ⟨i, v, rfl, (ho v mv).mono (t4.trans s8), hE⟩, fun H' s' => q' H' (((Same.trans t1 t2).trans t4).trans s')⟩
      have s68 := s67.trans s8
      have hb8 := hb2.mono s68
      have he8 := he.mono s68
      -- great ones
      have e60 : (10 : Int) ^ (60 : Int).toNat = most := by decide +kernel
      have p60 : ∀ σ H', Evl.Ev (tOp (rI CPow fun i j => V.int (i ^ j.toNat)) (tC (V.int 10)) (tC (V.int 60))) σ H' (.int most) := fun σ H' => by
        rw [← e60]
        exact Evl.ev_op Evl.ev_c Evl.ev_c (Evl.rv_I ⟨by decide, by decide, by decide⟩)
      refine q_forN4 (K := K) (evn_disp (m := [(most, 1)]) (evps_cons (evp_tup (p60 _ _) Evl.ev_c) evps_nil) (by show 1 ≤ 1000; decide)) (evn_disp (m := [(-most - fr, 1)]) (evps_cons (evp_tup (Evl.ev_op (Evl.ev_un (p60 _ _) Evl.ru_neg) (Evl.ev_var rfl) Evl.rv_I0) Evl.ev_c) evps_nil) (by show 1 ≤ 1000; decide))
        (evn_disp (m := [(0, most)]) (evps_cons (evp_tup Evl.ev_c (p60 _ _)) evps_nil) (by show 1 ≤ 1000; decide)) (evn_disp (m := [(0, 1), (5, most + fr)]) (evps_cons (evp_tup Evl.ev_c Evl.ev_c) (evps_cons (evp_tup Evl.ev_c (Evl.ev_op (p60 _ _) (Evl.ev_var rfl) Evl.rv_I0)) evps_nil)) (by show 2 ≤ 1000; decide))
        (fun σ => ∃ y8, σ = [some (.ref a), some (.int fr), some (.ref b), some (.ref e), some (.int (hs.length : Int)), some (.ref q5), y6, y7, y8]) ⟨_, rfl⟩ ?_ ?_
      · rintro m mm p B σ' H9 sB hp ⟨y8, rfl⟩ s9
        have hg : HB m ∧ m.all okW = false := by
          have z : (1000 : Nat) < 2 ^ 200 := by decide +kernel
          have w1 := most_wd
          have w2 : (most + fr).natAbs < 2 ^ 200 := by
            have z2 : (most + 1000000).natAbs < 2 ^ 200 := by decide +kernel
            have : (0 : Int) < most := by decide +kernel
            omega
          have w3 : (-most - fr).natAbs < 2 ^ 200 := by omega
          have mp : (0 : Int) < most := by decide +kernel
          have n1 : okW (most, 1) = false := by decide +kernel
          have n2 : okW (0, most) = false := by decide +kernel
          have n3 : okW (-most - fr, 1) = false := by
            have : absI (-most - fr) = most + fr := by
              unfold absI
              rw [if_pos (by omega)]
              omega
            unfold okW
            dsimp only
            rw [this, decide_eq_false (show ¬ most + fr < most by omega), Bool.false_and]
          have n4 : okW (5, most + fr) = false := by
            unfold okW
            dsimp only
            rw [decide_eq_false (show ¬ most + fr < most by omega), Bool.and_false]
          have hw : most.natAbs < 2 ^ 200 := w1
          simp only [List.mem_cons, List.not_mem_nil, or_false] at mm
          rcases mm with rfl | rfl | rfl | rfl
          · refine ⟨⟨by show 1 ≤ 1000; decide, fun x m => ?_, fun x m => ?_, fun x m => ?_⟩, by rw [List.all_cons, n1]; rfl⟩ <;> rw [List.mem_singleton.mp m] <;> dsimp only <;> omega
          · refine ⟨⟨by show 1 ≤ 1000; decide, fun x m => ?_, fun x m => ?_, fun x m => ?_⟩, by rw [List.all_cons, n3]; rfl⟩ <;> rw [List.mem_singleton.mp m] <;> dsimp only <;> omega
          · refine ⟨⟨by show 1 ≤ 1000; decide, fun x m => ?_, fun x m => ?_, fun x m => ?_⟩, by rw [List.all_cons, n2]; rfl⟩ <;> rw [List.mem_singleton.mp m] <;> dsimp only <;> omega
          · refine ⟨⟨by show 2 ≤ 1000; decide, fun x m => ?_, fun x m => ?_, fun x m => ?_⟩, by rw [List.all_cons, List.all_cons, n4, Bool.false_and, Bool.and_false]⟩ <;> simp only [List.mem_cons, List.not_mem_nil, or_false] at m <;> rcases m with rfl | rfl <;> dsimp only <;> omega
        have hp9 := hp.mono s9
        refine if_b (b := false) ?_ (fun z => nomatch z) (fun _ H10 s10 => ⟨⟨_, rfl⟩, s9.trans s10⟩)
        refine Evl.et_test ?_
        refine fun H0 s0 Q' q' => ⟨_, rfl, fH, .int 4, .ref p, spHeapsD K C2, true, rfl, ⟨fdH, psH, FH, kH, bH⟩, fun Q2 E2 hE => ⟨4, .ref p, rfl, .inr ⟨rfl, p, m, rfl, hp9.mono s0, hg.1, hg.2⟩, hE⟩, fun H' p' s1 np ep => ⟨(by show 4 ≤ sizeLine; decide), fun e' ne' => ?_⟩⟩
        have t2 := same_new (o := .lst (flags true)) ne'
        refine ⟨.list (flagsD true), .list (flagsD true), .lst (SqL.of (t2 _ _ ep)) (dp_flags true), .lst (SqL.of upd_same) (dp_flags true), sh_flags true, sh_flags true, ?_⟩
        rw [eqv_flags]
        exact q' _ (s1.trans t2)
      · rintro σ' H9 ⟨y8, rfl⟩ s9
        refine ret_v (v := .bl true) ?_ fun H10 s10 => q H10
        have hb9 := hb8.mono s9
        have he9 := he8.mono s9
        have h1 : HB [(1 - most, 0)] := by
          have z : (1000 : Nat) < 2 ^ 200 := by decide +kernel
          have zz : (1 - most).natAbs < 2 ^ 200 := by decide +kernel
          refine ⟨by show 1 ≤ 1000; decide, fun x m => ?_, fun x m => ?_, fun x m => ?_⟩ <;> rw [List.mem_singleton.mp m] <;> dsimp only <;> omega
        have ek : wText [(1 - most, 0)] = "-" ++ repS "9" (60 : Int).toNat ++ ":0" := by decide +kernel
        refine Evl.ev_is (Evl.ev_andV (a := decide (hs = hs)) (b := decide (V.str (wText [(1 - most, 0)]) = V.str ("-" ++ repS "9" (60 : Int).toNat ++ ":0"))) (ev_eqQ (evq_var rfl hb9) (evq_var rfl he9)) fun _ => Evl.ev_op (x := .str (wText [(1 - most, 0)])) ?_ (y := .str ("-" ++ repS "9" (60 : Int).toNat ++ ":0")) ?_ (Evl.rv_eq rfl)) ?_
        · exact ev_written (EvN.q (evn_disp (m := [(1 - most, 0)]) (evps_cons (evp_tup (Evl.ev_op Evl.ev_c (p60 _ _) Evl.rv_I0) Evl.ev_c) evps_nil) (by show 1 ≤ 1000; decide))) h1 (by decide +kernel)
        · refine Evl.ev_op (Evl.ev_op Evl.ev_c (Evl.ev_op Evl.ev_c Evl.ev_c (fun H' s' Q' q' => ⟨_, _, rfl, rfl, by decide, by decide, rfl, q' H' (Evl.Ex.refl _)⟩)) (rv_addS ?_)) Evl.ev_c (rv_addS ?_)
          · rw [repS_len]; decide
          · rw [str_len_app, repS_len]; decide
        · rw [ek, decide_eq_true rfl, decide_eq_true rfl]
          rfl
end
end Wk
namespace Wk
open PySem PySem.Spec PyProof.Rows L2
theorem all_mk {l : PySem.W.OpenLaw} {w : World} {K : PySem.W.Frag} {h : Heap} {mg : Str → Option Value} {fa C_Spread C_HeapError C_BadHeaps C_BadPlace C_BadText f1 f2 f3 f4 f5 f6 f7 f8 f9 f10 f11 f12 f13 f14 f15 f16 f17 f18 f19 f20 f21 f22 f23 f24 : Addr} (X : K.In h) (G : h.Ns mainGlobals mg) (hfa : mg "law" = some (.ref fa))
     {tk_MOST : Tok} {od1 an1 od2 an2 od3 an3 od4 an4 od5 an5 od6 an6 od7 an7 od8 an8 od9 an9 od10 an10 od11 an11 od12 an12 od13 an13 od14 an14 od15 an15 od16 an16 od17 an17 od18 an18 od19 an19 od20 an20 od21 an21 od22 an22 od23 an23 od24 an24 : Option Addr} {sl1 sl2 sl3 sl4 sl5 sl6 sl7 sl8 sl9 sl10 sl11 sl12 sl13 sl14 sl15 sl16 sl17 sl18 sl19 sl20 sl21 sl22 sl23 sl24 : Array (Option Value)} {oc1 kV1 dc1 pm1 cd1 ct1 oc2 kV2 dc2 pm2 cd2 ct2 oc3 kV3 dc3 pm3 cd3 ct3 oc4 kV4 dc4 pm4 cd4 ct4 oc5 kV5 dc5 pm5 cd5 ct5 oc6 kV6 dc6 pm6 cd6 ct6 oc7 kV7 dc7 pm7 cd7 ct7 oc8 kV8 dc8 pm8 cd8 ct8 oc9 kV9 dc9 pm9 cd9 ct9 oc10 kV10 dc10 pm10 cd10 ct10 oc11 kV11 dc11 pm11 cd11 ct11 oc12 kV12 dc12 pm12 cd12 ct12 oc13 kV13 dc13 pm13 cd13 ct13 oc14 kV14 dc14 pm14 cd14 ct14 oc15 kV15 dc15 pm15 cd15 ct15 oc16 kV16 dc16 pm16 cd16 ct16 oc17 kV17 dc17 pm17 cd17 ct17 oc18 kV18 dc18 pm18 cd18 ct18 oc19 kV19 dc19 pm19 cd19 ct19 oc20 kV20 dc20 pm20 cd20 ct20 oc21 kV21 dc21 pm21 cd21 ct21 oc22 kV22 dc22 pm22 cd22 ct22 oc23 kV23 dc23 pm23 cd23 ct23 oc24 kV24 dc24 pm24 cd24 ct24 : Value}
    (a1 : PySem.W.nsIn K mainGlobals "law" = some (some (.ref f1)))
    (l1 : K.lookup f1 = some ⟨oc1, od1, .func (PySem.W.fnOf "law" "law" (defArgs st_law) (defBody st_law) (defScope st_law) .none kV1 dc1 pm1 an1 cd1 ct1), sl1⟩)
    (c1 : PySem.W.codeIn K cd1 "law" = true)
    (k1 : PySem.W.keepIn K (.ref f1) = true)
    (a2 : PySem.W.nsIn K mainGlobals "_law_heaps" = some (some (.ref f2)))
    (l2 : K.lookup f2 = some ⟨oc2, od2, .func (PySem.W.fnOf "_law_heaps" "_law_heaps" (defArgs st__law_heaps) (defBody st__law_heaps) (defScope st__law_heaps) .none kV2 dc2 pm2 an2 cd2 ct2), sl2⟩)
    (c2 : PySem.W.codeIn K cd2 "_law_heaps" = true)
    (k2 : PySem.W.keepIn K (.ref f2) = true)
    (a3 : PySem.W.nsIn K mainGlobals "_law_cell_at" = some (some (.ref f3)))
    (l3 : K.lookup f3 = some ⟨oc3, od3, .func (PySem.W.fnOf "_law_cell_at" "_law_cell_at" (defArgs st__law_cell_at) (defBody st__law_cell_at) (defScope st__law_cell_at) .none kV3 dc3 pm3 an3 cd3 ct3), sl3⟩)
    (c3 : PySem.W.codeIn K cd3 "_law_cell_at" = true)
    (k3 : PySem.W.keepIn K (.ref f3) = true)
    (a4 : PySem.W.nsIn K mainGlobals "_law_all" = some (some (.ref f4)))
    (l4 : K.lookup f4 = some ⟨oc4, od4, .func (PySem.W.fnOf "_law_all" "_law_all" (defArgs st__law_all) (defBody st__law_all) (defScope st__law_all) .none kV4 dc4 pm4 an4 cd4 ct4), sl4⟩)
    (c4 : PySem.W.codeIn K cd4 "_law_all" = true)
    (k4 : PySem.W.keepIn K (.ref f4) = true)
    (a5 : PySem.W.nsIn K mainGlobals "_law_with_heaps" = some (some (.ref f5)))
    (l5 : K.lookup f5 = some ⟨oc5, od5, .func (PySem.W.fnOf "_law_with_heaps" "_law_with_heaps" (defArgs st__law_with_heaps) (defBody st__law_with_heaps) (defScope st__law_with_heaps) .none kV5 dc5 pm5 an5 cd5 ct5), sl5⟩)
    (c5 : PySem.W.codeIn K cd5 "_law_with_heaps" = true)
    (k5 : PySem.W.keepIn K (.ref f5) = true)
    (a6 : PySem.W.nsIn K mainGlobals "_law_with_place" = some (some (.ref f6)))
    (l6 : K.lookup f6 = some ⟨oc6, od6, .func (PySem.W.fnOf "_law_with_place" "_law_with_place" (defArgs st__law_with_place) (defBody st__law_with_place) (defScope st__law_with_place) .none kV6 dc6 pm6 an6 cd6 ct6), sl6⟩)
    (c6 : PySem.W.codeIn K cd6 "_law_with_place" = true)
    (k6 : PySem.W.keepIn K (.ref f6) = true)
    (a7 : PySem.W.nsIn K mainGlobals "_law_told" = some (some (.ref f7)))
    (l7 : K.lookup f7 = some ⟨oc7, od7, .func (PySem.W.fnOf "_law_told" "_law_told" (defArgs st__law_told) (defBody st__law_told) (defScope st__law_told) .none kV7 dc7 pm7 an7 cd7 ct7), sl7⟩)
    (c7 : PySem.W.codeIn K cd7 "_law_told" = true)
    (k7 : PySem.W.keepIn K (.ref f7) = true)
    (a8 : PySem.W.nsIn K mainGlobals "written" = some (some (.ref f8)))
    (l8 : K.lookup f8 = some ⟨oc8, od8, .func (PySem.W.fnOf "written" "written" (defArgs st_written) (defBody st_written) (defScope st_written) .none kV8 dc8 pm8 an8 cd8 ct8), sl8⟩)
    (c8 : PySem.W.codeIn K cd8 "written" = true)
    (k8 : PySem.W.keepIn K (.ref f8) = true)
    (a9 : PySem.W.nsIn K mainGlobals "_law_draw" = some (some (.ref f9)))
    (l9 : K.lookup f9 = some ⟨oc9, od9, .func (PySem.W.fnOf "_law_draw" "_law_draw" (defArgs st__law_draw) (defBody st__law_draw) (defScope st__law_draw) .none kV9 dc9 pm9 an9 cd9 ct9), sl9⟩)
    (c9 : PySem.W.codeIn K cd9 "_law_draw" = true)
    (k9 : PySem.W.keepIn K (.ref f9) = true)
    (a10 : PySem.W.nsIn K mainGlobals "all_gave" = some (some (.ref f10)))
    (l10 : K.lookup f10 = some ⟨oc10, od10, .func (PySem.W.fnOf "all_gave" "all_gave" (defArgs st_all_gave) (defBody st_all_gave) (defScope st_all_gave) .none kV10 dc10 pm10 an10 cd10 ct10), sl10⟩)
    (c10 : PySem.W.codeIn K cd10 "all_gave" = true)
    (k10 : PySem.W.keepIn K (.ref f10) = true)
    (a11 : PySem.W.nsIn K mainGlobals "spread" = some (some (.ref f11)))
    (l11 : K.lookup f11 = some ⟨oc11, od11, .func (PySem.W.fnOf "spread" "spread" (defArgs st_spread) (defBody st_spread) (defScope st_spread) .none kV11 dc11 pm11 an11 cd11 ct11), sl11⟩)
    (c11 : PySem.W.codeIn K cd11 "spread" = true)
    (k11 : PySem.W.keepIn K (.ref f11) = true)
    (a12 : PySem.W.nsIn K mainGlobals "left" = some (some (.ref f12)))
    (l12 : K.lookup f12 = some ⟨oc12, od12, .func (PySem.W.fnOf "left" "left" (defArgs st_left) (defBody st_left) (defScope st_left) .none kV12 dc12 pm12 an12 cd12 ct12), sl12⟩)
    (c12 : PySem.W.codeIn K cd12 "left" = true)
    (k12 : PySem.W.keepIn K (.ref f12) = true)
    (a13 : PySem.W.nsIn K mainGlobals "gave" = some (some (.ref f13)))
    (l13 : K.lookup f13 = some ⟨oc13, od13, .func (PySem.W.fnOf "gave" "gave" (defArgs st_gave) (defBody st_gave) (defScope st_gave) .none kV13 dc13 pm13 an13 cd13 ct13), sl13⟩)
    (c13 : PySem.W.codeIn K cd13 "gave" = true)
    (k13 : PySem.W.keepIn K (.ref f13) = true)
    (a14 : PySem.W.nsIn K mainGlobals "check_heaps" = some (some (.ref f14)))
    (l14 : K.lookup f14 = some ⟨oc14, od14, .func (PySem.W.fnOf "check_heaps" "check_heaps" (defArgs st_check_heaps) (defBody st_check_heaps) (defScope st_check_heaps) .none kV14 dc14 pm14 an14 cd14 ct14), sl14⟩)
    (c14 : PySem.W.codeIn K cd14 "check_heaps" = true)
    (k14 : PySem.W.keepIn K (.ref f14) = true)
    (a15 : PySem.W.nsIn K mainGlobals "stretches_of" = some (some (.ref f15)))
    (l15 : K.lookup f15 = some ⟨oc15, od15, .func (PySem.W.fnOf "stretches_of" "stretches_of" (defArgs st_stretches_of) (defBody st_stretches_of) (defScope st_stretches_of) .none kV15 dc15 pm15 an15 cd15 ct15), sl15⟩)
    (c15 : PySem.W.codeIn K cd15 "stretches_of" = true)
    (k15 : PySem.W.keepIn K (.ref f15) = true)
    (a16 : PySem.W.nsIn K mainGlobals "squares_to" = some (some (.ref f16)))
    (l16 : K.lookup f16 = some ⟨oc16, od16, .func (PySem.W.fnOf "squares_to" "squares_to" (defArgs st_squares_to) (defBody st_squares_to) (defScope st_squares_to) .none kV16 dc16 pm16 an16 cd16 ct16), sl16⟩)
    (c16 : PySem.W.codeIn K cd16 "squares_to" = true)
    (k16 : PySem.W.keepIn K (.ref f16) = true)
    (a17 : PySem.W.nsIn K mainGlobals "check_place" = some (some (.ref f17)))
    (l17 : K.lookup f17 = some ⟨oc17, od17, .func (PySem.W.fnOf "check_place" "check_place" (defArgs st_check_place) (defBody st_check_place) (defScope st_check_place) .none kV17 dc17 pm17 an17 cd17 ct17), sl17⟩)
    (c17 : PySem.W.codeIn K cd17 "check_place" = true)
    (k17 : PySem.W.keepIn K (.ref f17) = true)
    (a18 : PySem.W.nsIn K mainGlobals "is_heap" = some (some (.ref f18)))
    (l18 : K.lookup f18 = some ⟨oc18, od18, .func (PySem.W.fnOf "is_heap" "is_heap" (defArgs st_is_heap) (defBody st_is_heap) (defScope st_is_heap) .none kV18 dc18 pm18 an18 cd18 ct18), sl18⟩)
    (c18 : PySem.W.codeIn K cd18 "is_heap" = true)
    (k18 : PySem.W.keepIn K (.ref f18) = true)
    (a19 : PySem.W.nsIn K mainGlobals "clusters_of" = some (some (.ref f19)))
    (l19 : K.lookup f19 = some ⟨oc19, od19, .func (PySem.W.fnOf "clusters_of" "clusters_of" (defArgs st_clusters_of) (defBody st_clusters_of) (defScope st_clusters_of) .none kV19 dc19 pm19 an19 cd19 ct19), sl19⟩)
    (c19 : PySem.W.codeIn K cd19 "clusters_of" = true)
    (k19 : PySem.W.keepIn K (.ref f19) = true)
    (a20 : PySem.W.nsIn K mainGlobals "_wall" = some (some (.ref f20)))
    (l20 : K.lookup f20 = some ⟨oc20, od20, .func (PySem.W.fnOf "_wall" "_wall" (defArgs st__wall) (defBody st__wall) (defScope st__wall) .none kV20 dc20 pm20 an20 cd20 ct20), sl20⟩)
    (c20 : PySem.W.codeIn K cd20 "_wall" = true)
    (k20 : PySem.W.keepIn K (.ref f20) = true)
    (a21 : PySem.W.nsIn K mainGlobals "is_whole" = some (some (.ref f21)))
    (l21 : K.lookup f21 = some ⟨oc21, od21, .func (PySem.W.fnOf "is_whole" "is_whole" (defArgs st_is_whole) (defBody st_is_whole) (defScope st_is_whole) .none kV21 dc21 pm21 an21 cd21 ct21), sl21⟩)
    (c21 : PySem.W.codeIn K cd21 "is_whole" = true)
    (k21 : PySem.W.keepIn K (.ref f21) = true)
    (a22 : PySem.W.nsIn K mainGlobals "ends_of" = some (some (.ref f22)))
    (l22 : K.lookup f22 = some ⟨oc22, od22, .func (PySem.W.fnOf "ends_of" "ends_of" (defArgs st_ends_of) (defBody st_ends_of) (defScope st_ends_of) .none kV22 dc22 pm22 an22 cd22 ct22), sl22⟩)
    (c22 : PySem.W.codeIn K cd22 "ends_of" = true)
    (k22 : PySem.W.keepIn K (.ref f22) = true)
    (aC_Spread : PySem.W.nsIn K mainGlobals "Spread" = some (some (.ref C_Spread)))
    (a23 : PySem.W.findIn K (.ref C_Spread) "__init__" = some (some (.ref f23)))
    (i23 : PySem.W.isFn K (.ref f23) = true)
    (l23 : K.lookup f23 = some ⟨oc23, od23, .func (PySem.W.fnOf "__init__" "Spread.__init__" (defArgs st_Spread_init) (defBody st_Spread_init) (defScope st_Spread_init) .none kV23 dc23 pm23 an23 cd23 ct23), sl23⟩)
    (c23 : PySem.W.codeIn K cd23 "Spread.__init__" = true)
    (k23 : PySem.W.keepIn K (.ref f23) = true)
    (a24 : PySem.W.findIn K (.ref C_Spread) "shows" = some (some (.ref f24)))
    (i24 : PySem.W.isFn K (.ref f24) = true)
    (l24 : K.lookup f24 = some ⟨oc24, od24, .func (PySem.W.fnOf "shows" "Spread.shows" (defArgs st_Spread_shows) (defBody st_Spread_shows) (defScope st_Spread_shows) .none kV24 dc24 pm24 an24 cd24 ct24), sl24⟩)
    (c24 : PySem.W.codeIn K cd24 "Spread.shows" = true)
    (k24 : PySem.W.keepIn K (.ref f24) = true)
    (pg_Spread : PySem.W.plainGet K C_Spread Str.empty = true)
    (hd_Spread : PySem.W.hasDictIn K C_Spread = true)
    (po_Spread : PySem.W.plainOver K C_Spread = true)
    (sa_Spread : PySem.W.findIn K (.ref C_Spread) "__setattr__" = some (some (.builtin "object.__setattr__")))
    (mk_Spread : PySem.W.makesIn K C_Spread = true)
    (kc_Spread : PySem.W.keepIn K (.ref C_Spread) = true)
    (nf_Spread_stretches : PySem.W.findIn K (.ref C_Spread) "stretches" = some none)
    (aC_HeapError : PySem.W.nsIn K mainGlobals "HeapError" = some (some (.ref C_HeapError)))
    (bX_HeapError : PySem.W.subIn K (.ref C_HeapError) (.type "BaseException") = some true)
    (tX_HeapError : PySem.W.typeIn K (.ref C_HeapError) = some (.type "type"))
    (kX_HeapError : PySem.W.keepIn K (.ref C_HeapError) = true)
    (iX_HeapError : PySem.W.isClsIn K C_HeapError = true)
    (dX_HeapError : PySem.W.hasDictIn K C_HeapError = true)
    (vX_HeapError : PySem.W.subIn K (.ref C_HeapError) (.type "ValueError") = some true)
    (xX_HeapError : PySem.W.excIn K C_HeapError [.type "ValueError", .type "Exception", .type "BaseException", .type "object"] "ValueError.__new__" = true)
    (gX_HeapError : PySem.W.findIn K (.ref C_HeapError) "__getattribute__" = some (some (.builtin "BaseException.__getattribute__")))
    (hX_HeapError : PySem.W.findIn K (.ref C_HeapError) "__getattr__" = some none)
    (cX_HeapError : PySem.W.findIn K (.ref C_HeapError) "__class__" = some (some (.builtin "object.__class__")))
    (mX_HeapError : PySem.W.mroIn K C_HeapError (.type "object") = some true)
    (aC_BadHeaps : PySem.W.nsIn K mainGlobals "BadHeaps" = some (some (.ref C_BadHeaps)))
    (bX_BadHeaps : PySem.W.subIn K (.ref C_BadHeaps) (.type "BaseException") = some true)
    (tX_BadHeaps : PySem.W.typeIn K (.ref C_BadHeaps) = some (.type "type"))
    (kX_BadHeaps : PySem.W.keepIn K (.ref C_BadHeaps) = true)
    (iX_BadHeaps : PySem.W.isClsIn K C_BadHeaps = true)
    (dX_BadHeaps : PySem.W.hasDictIn K C_BadHeaps = true)
    (vX_BadHeaps : PySem.W.subIn K (.ref C_BadHeaps) (.type "ValueError") = some true)
    (xX_BadHeaps : PySem.W.excIn K C_BadHeaps [.type "ValueError", .type "Exception", .type "BaseException", .type "object"] "ValueError.__new__" = true)
    (gX_BadHeaps : PySem.W.findIn K (.ref C_BadHeaps) "__getattribute__" = some (some (.builtin "BaseException.__getattribute__")))
    (hX_BadHeaps : PySem.W.findIn K (.ref C_BadHeaps) "__getattr__" = some none)
    (cX_BadHeaps : PySem.W.findIn K (.ref C_BadHeaps) "__class__" = some (some (.builtin "object.__class__")))
    (mX_BadHeaps : PySem.W.mroIn K C_BadHeaps (.type "object") = some true)
    (aC_BadPlace : PySem.W.nsIn K mainGlobals "BadPlace" = some (some (.ref C_BadPlace)))
    (bX_BadPlace : PySem.W.subIn K (.ref C_BadPlace) (.type "BaseException") = some true)
    (tX_BadPlace : PySem.W.typeIn K (.ref C_BadPlace) = some (.type "type"))
    (kX_BadPlace : PySem.W.keepIn K (.ref C_BadPlace) = true)
    (iX_BadPlace : PySem.W.isClsIn K C_BadPlace = true)
    (dX_BadPlace : PySem.W.hasDictIn K C_BadPlace = true)
    (vX_BadPlace : PySem.W.subIn K (.ref C_BadPlace) (.type "ValueError") = some true)
    (xX_BadPlace : PySem.W.excIn K C_BadPlace [.type "ValueError", .type "Exception", .type "BaseException", .type "object"] "ValueError.__new__" = true)
    (gX_BadPlace : PySem.W.findIn K (.ref C_BadPlace) "__getattribute__" = some (some (.builtin "BaseException.__getattribute__")))
    (hX_BadPlace : PySem.W.findIn K (.ref C_BadPlace) "__getattr__" = some none)
    (cX_BadPlace : PySem.W.findIn K (.ref C_BadPlace) "__class__" = some (some (.builtin "object.__class__")))
    (mX_BadPlace : PySem.W.mroIn K C_BadPlace (.type "object") = some true)
    (aC_BadText : PySem.W.nsIn K mainGlobals "BadText" = some (some (.ref C_BadText)))
    (bX_BadText : PySem.W.subIn K (.ref C_BadText) (.type "BaseException") = some true)
    (tX_BadText : PySem.W.typeIn K (.ref C_BadText) = some (.type "type"))
    (kX_BadText : PySem.W.keepIn K (.ref C_BadText) = true)
    (iX_BadText : PySem.W.isClsIn K C_BadText = true)
    (dX_BadText : PySem.W.hasDictIn K C_BadText = true)
    (vX_BadText : PySem.W.subIn K (.ref C_BadText) (.type "ValueError") = some true)
    (xX_BadText : PySem.W.excIn K C_BadText [.type "ValueError", .type "Exception", .type "BaseException", .type "object"] "ValueError.__new__" = true)
    (gX_BadText : PySem.W.findIn K (.ref C_BadText) "__getattribute__" = some (some (.builtin "BaseException.__getattribute__")))
    (hX_BadText : PySem.W.findIn K (.ref C_BadText) "__getattr__" = some none)
    (cX_BadText : PySem.W.findIn K (.ref C_BadText) "__class__" = some (some (.builtin "object.__class__")))
    (mX_BadText : PySem.W.mroIn K C_BadText (.type "object") = some true)
    (sX_HeapError_HeapError : PySem.W.subIn K (.ref C_HeapError) (.ref C_HeapError) = some true)
    (sX_HeapError_BadHeaps : PySem.W.subIn K (.ref C_HeapError) (.ref C_BadHeaps) = some false)
    (sX_HeapError_BadPlace : PySem.W.subIn K (.ref C_HeapError) (.ref C_BadPlace) = some false)
    (sX_HeapError_BadText : PySem.W.subIn K (.ref C_HeapError) (.ref C_BadText) = some false)
    (sX_BadHeaps_HeapError : PySem.W.subIn K (.ref C_BadHeaps) (.ref C_HeapError) = some true)
    (sX_BadHeaps_BadHeaps : PySem.W.subIn K (.ref C_BadHeaps) (.ref C_BadHeaps) = some true)
    (sX_BadHeaps_BadPlace : PySem.W.subIn K (.ref C_BadHeaps) (.ref C_BadPlace) = some false)
    (sX_BadHeaps_BadText : PySem.W.subIn K (.ref C_BadHeaps) (.ref C_BadText) = some false)
    (sX_BadPlace_HeapError : PySem.W.subIn K (.ref C_BadPlace) (.ref C_HeapError) = some true)
    (sX_BadPlace_BadHeaps : PySem.W.subIn K (.ref C_BadPlace) (.ref C_BadHeaps) = some false)
    (sX_BadPlace_BadPlace : PySem.W.subIn K (.ref C_BadPlace) (.ref C_BadPlace) = some true)
    (sX_BadPlace_BadText : PySem.W.subIn K (.ref C_BadPlace) (.ref C_BadText) = some false)
    (sX_BadText_HeapError : PySem.W.subIn K (.ref C_BadText) (.ref C_HeapError) = some true)
    (sX_BadText_BadHeaps : PySem.W.subIn K (.ref C_BadText) (.ref C_BadHeaps) = some false)
    (sX_BadText_BadPlace : PySem.W.subIn K (.ref C_BadText) (.ref C_BadPlace) = some false)
    (sX_BadText_BadText : PySem.W.subIn K (.ref C_BadText) (.ref C_BadText) = some true)
    (sXN : PySem.W.specialIn K (.builtin "object.__class__") "__get__" = some (some (.builtin "getset_descriptor.__get__")))
    (sXT : PySem.W.takesIn K (.builtin "object.__class__") = some true)
    (kc_MOST : PySem.W.nsIn K mainGlobals "MOST" = some (some (.int 1000000000000000000000000000000000000000000000000000000000000 tk_MOST)))
    (z_range : PySem.W.nsIn K mainGlobals "range" = some none)
    (z_list : PySem.W.nsIn K mainGlobals "list" = some none)
    (z_len : PySem.W.nsIn K mainGlobals "len" = some none)
    (z_all : PySem.W.nsIn K mainGlobals "all" = some none)
    (z_isinstance : PySem.W.nsIn K mainGlobals "isinstance" = some none)
    (z_ValueError : PySem.W.nsIn K mainGlobals "ValueError" = some none)
    (z_str : PySem.W.nsIn K mainGlobals "str" = some none)
    (z_abs : PySem.W.nsIn K mainGlobals "abs" = some none)
    (z_min : PySem.W.nsIn K mainGlobals "min" = some none)
    (z_tuple : PySem.W.nsIn K mainGlobals "tuple" = some none)
    (z_sorted : PySem.W.nsIn K mainGlobals "sorted" = some none)
    (z_int : PySem.W.nsIn K mainGlobals "int" = some none)
    (z_bool : PySem.W.nsIn K mainGlobals "bool" = some none)
    (z_divmod : PySem.W.nsIn K mainGlobals "divmod" = some none) :
    ∃ fd : FuncData, (∀ (s : Shared) (v : Value), BindsTo s fd ⟨[v], []⟩ [("_law_script", v)]) ∧ ∀ base : Heap, K.In base → base.Ns mainGlobals mg → FnOk l.prog w K mg base CX0 8 fa fd ["_law_script"] (spLaw K) := by
  have e := hfa.symm.trans (PySem.W.mg_of X G a1)
  cases e
  have F1 := fun_mk (st := st_law) l1 c1 k1
  have F2 := fun_mk (st := st__law_heaps) l2 c2 k2
  have b2 := F2.binds (ps := ["_law_script"]) fun _ _ _ _ _ _ us hl => match us, hl with | [_], _ => rfl
  have F3 := fun_mk (st := st__law_cell_at) l3 c3 k3
  have b3 := F3.binds (ps := ["_law_script", "_law_k"]) fun _ _ _ _ _ _ us hl => match us, hl with | [_, _], _ => rfl
  have F4 := fun_mk (st := st__law_all) l4 c4 k4
  have b4 := F4.binds (ps := ["_law_ask", "_law_doors", "_law_things", "_law_due"]) fun _ _ _ _ _ _ us hl => match us, hl with | [_, _, _, _], _ => rfl
  have F5 := fun_mk (st := st__law_with_heaps) l5 c5 k5
  have b5 := F5.binds (ps := ["_law_door", "_law_heaps_here"]) fun _ _ _ _ _ _ us hl => match us, hl with | [_, _], _ => rfl
  have F6 := fun_mk (st := st__law_with_place) l6 c6 k6
  have b6 := F6.binds (ps := ["_law_door", "_law_place"]) fun _ _ _ _ _ _ us hl => match us, hl with | [_, _], _ => rfl
  have F7 := fun_mk (st := st__law_told) l7 c7 k7
  have b7 := F7.binds (ps := ["_law_ask", "_law_one", "_law_other"]) fun _ _ _ _ _ _ us hl => match us, hl with | [_, _, _], _ => rfl
  have F8 := fun_mk (st := st_written) l8 c8 k8
  have b8 := F8.binds (ps := ["heaps"]) fun _ _ _ _ _ _ us hl => match us, hl with | [_], _ => rfl
  have F9 := fun_mk (st := st__law_draw) l9 c9 k9
  have b9 := F9.binds (ps := ["_law_cell", "_law_k", "_law_many"]) fun _ _ _ _ _ _ us hl => match us, hl with | [_, _, _], _ => rfl
  have F10 := fun_mk (st := st_all_gave) l10 c10 k10
  have b10 := F10.binds (ps := ["heaps"]) fun _ _ _ _ _ _ us hl => match us, hl with | [_], _ => rfl
  have F11 := fun_mk (st := st_spread) l11 c11 k11
  have b11 := F11.binds (ps := ["heaps"]) fun _ _ _ _ _ _ us hl => match us, hl with | [_], _ => rfl
  have F12 := fun_mk (st := st_left) l12 c12 k12
  have b12 := F12.binds (ps := ["heaps", "place"]) fun _ _ _ _ _ _ us hl => match us, hl with | [_, _], _ => rfl
  have F13 := fun_mk (st := st_gave) l13 c13 k13
  have b13 := F13.binds (ps := ["heaps", "place"]) fun _ _ _ _ _ _ us hl => match us, hl with | [_, _], _ => rfl
  have F14 := fun_mk (st := st_check_heaps) l14 c14 k14
  have b14 := F14.binds (ps := ["heaps"]) fun _ _ _ _ _ _ us hl => match us, hl with | [_], _ => rfl
  have F15 := fun_mk (st := st_stretches_of) l15 c15 k15
  have b15 := F15.binds (ps := ["heaps"]) fun _ _ _ _ _ _ us hl => match us, hl with | [_], _ => rfl
  have F16 := fun_mk (st := st_squares_to) l16 c16 k16
  have b16 := F16.binds (ps := ["place"]) fun _ _ _ _ _ _ us hl => match us, hl with | [_], _ => rfl
  have F17 := fun_mk (st := st_check_place) l17 c17 k17
  have b17 := F17.binds (ps := ["place"]) fun _ _ _ _ _ _ us hl => match us, hl with | [_], _ => rfl
  have F18 := fun_mk (st := st_is_heap) l18 c18 k18
  have b18 := F18.binds (ps := ["thing"]) fun _ _ _ _ _ _ us hl => match us, hl with | [_], _ => rfl
  have F19 := fun_mk (st := st_clusters_of) l19 c19 k19
  have b19 := F19.binds (ps := ["heaps"]) fun _ _ _ _ _ _ us hl => match us, hl with | [_], _ => rfl
  have F20 := fun_mk (st := st__wall) l20 c20 k20
  have b20 := F20.binds (ps := ["k"]) fun _ _ _ _ _ _ us hl => match us, hl with | [_], _ => rfl
  have F21 := fun_mk (st := st_is_whole) l21 c21 k21
  have b21 := F21.binds (ps := ["thing"]) fun _ _ _ _ _ _ us hl => match us, hl with | [_], _ => rfl
  have F22 := fun_mk (st := st_ends_of) l22 c22 k22
  have b22 := F22.binds (ps := ["many", "balance"]) fun _ _ _ _ _ _ us hl => match us, hl with | [_, _], _ => rfl
  have F23 := fun_mk (st := st_Spread_init) l23 c23 k23
  have b23 := F23.binds (ps := ["self", "stretches"]) fun _ _ _ _ _ _ us hl => match us, hl with | [_, _], _ => rfl
  have F24 := fun_mk (st := st_Spread_shows) l24 c24 k24
  have b24 := F24.binds (ps := ["self", "heaps"]) fun _ _ _ _ _ _ us hl => match us, hl with | [_, _], _ => rfl
  have T : Top K mg :=
    { d__law_heaps := ⟨_, _, F2, PySem.W.mg_of X G a2, b2⟩,
      d__law_cell_at := ⟨_, _, F3, PySem.W.mg_of X G a3, b3⟩,
      d__law_all := ⟨_, _, F4, PySem.W.mg_of X G a4, b4⟩,
      d__law_with_heaps := ⟨_, _, F5, PySem.W.mg_of X G a5, b5⟩,
      d__law_with_place := ⟨_, _, F6, PySem.W.mg_of X G a6, b6⟩,
      d__law_told := ⟨_, _, F7, PySem.W.mg_of X G a7, b7⟩,
      d_written := ⟨_, _, F8, PySem.W.mg_of X G a8, b8⟩,
      d__law_draw := ⟨_, _, F9, PySem.W.mg_of X G a9, b9⟩,
      d_all_gave := ⟨_, _, F10, PySem.W.mg_of X G a10, b10⟩,
      d_spread := ⟨_, _, F11, PySem.W.mg_of X G a11, b11⟩,
      d_left := ⟨_, _, F12, PySem.W.mg_of X G a12, b12⟩,
      d_gave := ⟨_, _, F13, PySem.W.mg_of X G a13, b13⟩,
      d_check_heaps := ⟨_, _, F14, PySem.W.mg_of X G a14, b14⟩,
      d_stretches_of := ⟨_, _, F15, PySem.W.mg_of X G a15, b15⟩,
      d_squares_to := ⟨_, _, F16, PySem.W.mg_of X G a16, b16⟩,
      d_check_place := ⟨_, _, F17, PySem.W.mg_of X G a17, b17⟩,
      d_is_heap := ⟨_, _, F18, PySem.W.mg_of X G a18, b18⟩,
      d_clusters_of := ⟨_, _, F19, PySem.W.mg_of X G a19, b19⟩,
      d__wall := ⟨_, _, F20, PySem.W.mg_of X G a20, b20⟩,
      d_is_whole := ⟨_, _, F21, PySem.W.mg_of X G a21, b21⟩,
      d_ends_of := ⟨_, _, F22, PySem.W.mg_of X G a22, b22⟩,
      m_range := PySem.W.mg_none_of X G z_range,
      m_list := PySem.W.mg_none_of X G z_list,
      m_len := PySem.W.mg_none_of X G z_len,
      m_all := PySem.W.mg_none_of X G z_all,
      m_isinstance := PySem.W.mg_none_of X G z_isinstance,
      m_ValueError := PySem.W.mg_none_of X G z_ValueError,
      m_str := PySem.W.mg_none_of X G z_str,
      m_abs := PySem.W.mg_none_of X G z_abs,
      m_min := PySem.W.mg_none_of X G z_min,
      m_tuple := PySem.W.mg_none_of X G z_tuple,
      m_sorted := PySem.W.mg_none_of X G z_sorted,
      m_int := PySem.W.mg_none_of X G z_int,
      m_bool := PySem.W.mg_none_of X G z_bool,
      m_divmod := PySem.W.mg_none_of X G z_divmod }
  have T_Spread : Top_Spread K mg C_Spread :=
    { g_Spread := PySem.W.mg_of X G aC_Spread,
      cl_Spread := ⟨pg_Spread, hd_Spread, po_Spread, sa_Spread⟩,
      na_Spread_stretches := nf_Spread_stretches,
      i_Spread := ⟨_, _, F23, ⟨mk_Spread, a23, i23, kc_Spread⟩, b23⟩,
      e_Spread_shows := ⟨_, _, F24, ⟨a24, i24, k24⟩, b24⟩ }
  have TX : TopX K mg C_HeapError C_BadHeaps C_BadPlace C_BadText :=
    { x_HeapError := ⟨PySem.W.mg_of X G aC_HeapError, bX_HeapError, tX_HeapError, kX_HeapError, iX_HeapError, dX_HeapError, vX_HeapError, xX_HeapError, gX_HeapError, hX_HeapError, cX_HeapError, mX_HeapError⟩,
      x_BadHeaps := ⟨PySem.W.mg_of X G aC_BadHeaps, bX_BadHeaps, tX_BadHeaps, kX_BadHeaps, iX_BadHeaps, dX_BadHeaps, vX_BadHeaps, xX_BadHeaps, gX_BadHeaps, hX_BadHeaps, cX_BadHeaps, mX_BadHeaps⟩,
      x_BadPlace := ⟨PySem.W.mg_of X G aC_BadPlace, bX_BadPlace, tX_BadPlace, kX_BadPlace, iX_BadPlace, dX_BadPlace, vX_BadPlace, xX_BadPlace, gX_BadPlace, hX_BadPlace, cX_BadPlace, mX_BadPlace⟩,
      x_BadText := ⟨PySem.W.mg_of X G aC_BadText, bX_BadText, tX_BadText, kX_BadText, iX_BadText, dX_BadText, vX_BadText, xX_BadText, gX_BadText, hX_BadText, cX_BadText, mX_BadText⟩,
      s_HeapError_HeapError := sX_HeapError_HeapError,
      s_HeapError_BadHeaps := sX_HeapError_BadHeaps,
      s_HeapError_BadPlace := sX_HeapError_BadPlace,
      s_HeapError_BadText := sX_HeapError_BadText,
      s_BadHeaps_HeapError := sX_BadHeaps_HeapError,
      s_BadHeaps_BadHeaps := sX_BadHeaps_BadHeaps,
      s_BadHeaps_BadPlace := sX_BadHeaps_BadPlace,
      s_BadHeaps_BadText := sX_BadHeaps_BadText,
      s_BadPlace_HeapError := sX_BadPlace_HeapError,
      s_BadPlace_BadHeaps := sX_BadPlace_BadHeaps,
      s_BadPlace_BadPlace := sX_BadPlace_BadPlace,
      s_BadPlace_BadText := sX_BadPlace_BadText,
      s_BadText_HeapError := sX_BadText_HeapError,
      s_BadText_BadHeaps := sX_BadText_BadHeaps,
      s_BadText_BadPlace := sX_BadText_BadPlace,
      s_BadText_BadText := sX_BadText_BadText,
      sN := sXN,
      sT := sXT,
      k_MOST := ⟨_, PySem.W.mg_of X G kc_MOST⟩ }
  exact ⟨PySem.W.fnOf "law" "law" (defArgs st_law) (defBody st_law) (defScope st_law) .none kV1 dc1 pm1 an1 cd1 ct1, fun s v => .of_eq rfl, fun base _ _ => ok_law F1 T T_Spread TX⟩
end Wk
open PySem PySem.W PyProof.Rows
set_option maxRecDepth 100000 in
set_option maxHeartbeats 0 in
theorem PySem.Challenge.cw_spreadrow_k07_refused_holds : PySem.Challenge.rw_spreadrow_k07_refused.Holds := by
  w_on; o_law; k_head; (case hw => w_witness2)
  k_fill
  refine L2.walk_of (l := PySem.Challenge.rw_spreadrow_k07_refused) (n := 63) (k := 8) (x := "_law_script") (CX := fun _ => L2.CX0) (sp := fun w => Wk.spLaw _) rfl (by decide) rfl ⟨rfl, by decide, by decide⟩ (fun w h Y => PySem.W.kIn_of Y) ?F (fun _ _ a ns hl _ hS => ⟨a, ns, rfl, hS, hl, fun _ => rfl⟩) (fun _ _ _ _ _ h => h)
  case F =>
    intro w mg fa h KX G hmg
    refine' Wk.all_mk KX G hmg ?a1 ?l1 ?c1 ?k1 ?a2 ?l2 ?c2 ?k2 ?a3 ?l3 ?c3 ?k3 ?a4 ?l4 ?c4 ?k4 ?a5 ?l5 ?c5 ?k5 ?a6 ?l6 ?c6 ?k6 ?a7 ?l7 ?c7 ?k7 ?a8 ?l8 ?c8 ?k8 ?a9 ?l9 ?c9 ?k9 ?a10 ?l10 ?c10 ?k10 ?a11 ?l11 ?c11 ?k11 ?a12 ?l12 ?c12 ?k12 ?a13 ?l13 ?c13 ?k13 ?a14 ?l14 ?c14 ?k14 ?a15 ?l15 ?c15 ?k15 ?a16 ?l16 ?c16 ?k16 ?a17 ?l17 ?c17 ?k17 ?a18 ?l18 ?c18 ?k18 ?a19 ?l19 ?c19 ?k19 ?a20 ?l20 ?c20 ?k20 ?a21 ?l21 ?c21 ?k21 ?a22 ?l22 ?c22 ?k22 ?aC_Spread ?a23 ?i23 ?l23 ?c23 ?k23 ?a24 ?i24 ?l24 ?c24 ?k24 ?pg_Spread ?hd_Spread ?po_Spread ?sa_Spread ?mk_Spread ?kc_Spread ?nf_Spread_stretches ?aC_HeapError ?bX_HeapError ?tX_HeapError ?kX_HeapError ?iX_HeapError ?dX_HeapError ?vX_HeapError ?xX_HeapError ?gX_HeapError ?hX_HeapError ?cX_HeapError ?mX_HeapError ?aC_BadHeaps ?bX_BadHeaps ?tX_BadHeaps ?kX_BadHeaps ?iX_BadHeaps ?dX_BadHeaps ?vX_BadHeaps ?xX_BadHeaps ?gX_BadHeaps ?hX_BadHeaps ?cX_BadHeaps ?mX_BadHeaps ?aC_BadPlace ?bX_BadPlace ?tX_BadPlace ?kX_BadPlace ?iX_BadPlace ?dX_BadPlace ?vX_BadPlace ?xX_BadPlace ?gX_BadPlace ?hX_BadPlace ?cX_BadPlace ?mX_BadPlace ?aC_BadText ?bX_BadText ?tX_BadText ?kX_BadText ?iX_BadText ?dX_BadText ?vX_BadText ?xX_BadText ?gX_BadText ?hX_BadText ?cX_BadText ?mX_BadText ?sX_HeapError_HeapError ?sX_HeapError_BadHeaps ?sX_HeapError_BadPlace ?sX_HeapError_BadText ?sX_BadHeaps_HeapError ?sX_BadHeaps_BadHeaps ?sX_BadHeaps_BadPlace ?sX_BadHeaps_BadText ?sX_BadPlace_HeapError ?sX_BadPlace_BadHeaps ?sX_BadPlace_BadPlace ?sX_BadPlace_BadText ?sX_BadText_HeapError ?sX_BadText_BadHeaps ?sX_BadText_BadPlace ?sX_BadText_BadText ?sXN ?sXT ?kc_MOST ?z_range ?z_list ?z_len ?z_all ?z_isinstance ?z_ValueError ?z_str ?z_abs ?z_min ?z_tuple ?z_sorted ?z_int ?z_bool ?z_divmod
    (case a1 => k_is)
    (case l1 => k_is)
    (case c1 => k_is)
    (case k1 => k_is)
    (case a2 => k_is)
    (case l2 => k_is)
    (case c2 => k_is)
    (case k2 => k_is)
    (case a3 => k_is)
    (case l3 => k_is)
    (case c3 => k_is)
    (case k3 => k_is)
    (case a4 => k_is)
    (case l4 => k_is)
    (case c4 => k_is)
    (case k4 => k_is)
    (case a5 => k_is)
    (case l5 => k_is)
    (case c5 => k_is)
    (case k5 => k_is)
    (case a6 => k_is)
    (case l6 => k_is)
    (case c6 => k_is)
    (case k6 => k_is)
    (case a7 => k_is)
    (case l7 => k_is)
    (case c7 => k_is)
    (case k7 => k_is)
    (case a8 => k_is)
    (case l8 => k_is)
    (case c8 => k_is)
    (case k8 => k_is)
    (case a9 => k_is)
    (case l9 => k_is)
    (case c9 => k_is)
    (case k9 => k_is)
    (case a10 => k_is)
    (case l10 => k_is)
    (case c10 => k_is)
    (case k10 => k_is)
    (case a11 => k_is)
    (case l11 => k_is)
    (case c11 => k_is)
    (case k11 => k_is)
    (case a12 => k_is)
    (case l12 => k_is)
    (case c12 => k_is)
    (case k12 => k_is)
    (case a13 => k_is)
    (case l13 => k_is)
    (case c13 => k_is)
    (case k13 => k_is)
    (case a14 => k_is)
    (case l14 => k_is)
    (case c14 => k_is)
    (case k14 => k_is)
    (case a15 => k_is)
    (case l15 => k_is)
    (case c15 => k_is)
    (case k15 => k_is)
    (case a16 => k_is)
    (case l16 => k_is)
    (case c16 => k_is)
    (case k16 => k_is)
    (case a17 => k_is)
    (case l17 => k_is)
    (case c17 => k_is)
    (case k17 => k_is)
    (case a18 => k_is)
    (case l18 => k_is)
    (case c18 => k_is)
    (case k18 => k_is)
    (case a19 => k_is)
    (case l19 => k_is)
    (case c19 => k_is)
    (case k19 => k_is)
    (case a20 => k_is)
    (case l20 => k_is)
    (case c20 => k_is)
    (case k20 => k_is)
    (case a21 => k_is)
    (case l21 => k_is)
    (case c21 => k_is)
    (case k21 => k_is)
    (case a22 => k_is)
    (case l22 => k_is)
    (case c22 => k_is)
    (case k22 => k_is)
    (case aC_Spread => k_is)
    (case a23 => k_is)
    (case i23 => k_is)
    (case l23 => k_is)
    (case c23 => k_is)
    (case k23 => k_is)
    (case a24 => k_is)
    (case i24 => k_is)
    (case l24 => k_is)
    (case c24 => k_is)
    (case k24 => k_is)
    (case pg_Spread => k_is)
    (case hd_Spread => k_is)
    (case po_Spread => k_is)
    (case sa_Spread => k_is)
    (case mk_Spread => k_is)
    (case kc_Spread => k_is)
    (case nf_Spread_stretches => k_is)
    (case aC_HeapError => k_is)
    (case bX_HeapError => k_is)
    (case tX_HeapError => k_is)
    (case kX_HeapError => k_is)
    (case iX_HeapError => k_is)
    (case dX_HeapError => k_is)
    (case vX_HeapError => k_is)
    (case xX_HeapError => k_exc)
    (case gX_HeapError => k_is)
    (case hX_HeapError => k_is)
    (case cX_HeapError => k_is)
    (case mX_HeapError => k_is)
    (case aC_BadHeaps => k_is)
    (case bX_BadHeaps => k_is)
    (case tX_BadHeaps => k_is)
    (case kX_BadHeaps => k_is)
    (case iX_BadHeaps => k_is)
    (case dX_BadHeaps => k_is)
    (case vX_BadHeaps => k_is)
    (case xX_BadHeaps => k_exc)
    (case gX_BadHeaps => k_is)
    (case hX_BadHeaps => k_is)
    (case cX_BadHeaps => k_is)
    (case mX_BadHeaps => k_is)
    (case aC_BadPlace => k_is)
    (case bX_BadPlace => k_is)
    (case tX_BadPlace => k_is)
    (case kX_BadPlace => k_is)
    (case iX_BadPlace => k_is)
    (case dX_BadPlace => k_is)
    (case vX_BadPlace => k_is)
    (case xX_BadPlace => k_exc)
    (case gX_BadPlace => k_is)
    (case hX_BadPlace => k_is)
    (case cX_BadPlace => k_is)
    (case mX_BadPlace => k_is)
    (case aC_BadText => k_is)
    (case bX_BadText => k_is)
    (case tX_BadText => k_is)
    (case kX_BadText => k_is)
    (case iX_BadText => k_is)
    (case dX_BadText => k_is)
    (case vX_BadText => k_is)
    (case xX_BadText => k_exc)
    (case gX_BadText => k_is)
    (case hX_BadText => k_is)
    (case cX_BadText => k_is)
    (case mX_BadText => k_is)
    (case sX_HeapError_HeapError => k_is)
    (case sX_HeapError_BadHeaps => k_is)
    (case sX_HeapError_BadPlace => k_is)
    (case sX_HeapError_BadText => k_is)
    (case sX_BadHeaps_HeapError => k_is)
    (case sX_BadHeaps_BadHeaps => k_is)
    (case sX_BadHeaps_BadPlace => k_is)
    (case sX_BadHeaps_BadText => k_is)
    (case sX_BadPlace_HeapError => k_is)
    (case sX_BadPlace_BadHeaps => k_is)
    (case sX_BadPlace_BadPlace => k_is)
    (case sX_BadPlace_BadText => k_is)
    (case sX_BadText_HeapError => k_is)
    (case sX_BadText_BadHeaps => k_is)
    (case sX_BadText_BadPlace => k_is)
    (case sX_BadText_BadText => k_is)
    (case sXN => k_is)
    (case sXT => k_is)
    (case kc_MOST => k_is)
    (case z_range => k_is)
    (case z_list => k_is)
    (case z_len => k_is)
    (case z_all => k_is)
    (case z_isinstance => k_is)
    (case z_ValueError => k_is)
    (case z_str => k_is)
    (case z_abs => k_is)
    (case z_min => k_is)
    (case z_tuple => k_is)
    (case z_sorted => k_is)
    (case z_int => k_is)
    (case z_bool => k_is)
    (case z_divmod => k_is)

