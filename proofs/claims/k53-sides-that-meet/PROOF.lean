import PyProof.Rows.All
import Wide.All
import OpenK.AllK
import Wide.FinOn
import HandS.ForMost
import HandS.ForExc
import HandS.TupLe
import HandS.EndBits
import HandS.Flow
import HandS.Deep
import HandS.IsInst
import HandS.SortOrd
import HandS.SortInts
import HandS.SortRule
import HandS.Style
import PySem.Challenge.RW_nearland_k53_sides_that_meet
set_option Elab.async false
set_option linter.all false
set_option maxRecDepth 100000
set_option maxHeartbeats 4000000
set_option synthInstance.maxHeartbeats 0
set_option synthInstance.maxSize 100000
/-! Plain geometry of places: no program in sight. -/
namespace GM
def sg (x : Int) : Int := if 0 < x then 1 else if x < 0 then -1 else 0
abbrev twV (ax ay bx by_ cx cy : Int) : Int := (bx - ax) * (cy - ay) - (by_ - ay) * (cx - ax)
abbrev arV (ax ay bx by_ cx cy : Int) : Int := ax * (by_ - cy) + bx * (cy - ay) + cx * (ay - by_)
abbrev heV (ax ay dx dy : Int) : Int := (ax - dx) * (ax - dx) + (ay - dy) * (ay - dy)
abbrev boV (ax ay bx by_ cx cy dx dy : Int) : Int := heV ax ay dx dy * twV dx dy bx by_ cx cy + heV bx by_ dx dy * twV dx dy cx cy ax ay + heV cx cy dx dy * twV dx dy ax ay bx by_
abbrev riV (ax ay bx by_ cx cy dx dy : Int) : Int := sg (twV ax ay bx by_ cx cy) * sg (boV ax ay bx by_ cx cy dx dy)
def lxP (ax ay bx by_ : Int) : Prop := ax < bx ∨ ax = bx ∧ ay < by_
instance {a b c d : Int} : Decidable (lxP a b c d) := by unfold lxP; infer_instance
def spV (ax ay bx by_ cx cy dx dy : Int) : Bool := decide (
  if riV ax ay bx by_ cx cy dx dy ≠ 0 ∨ (ax = dx ∧ ay = dy) ∨ (bx = dx ∧ by_ = dy) ∨ (cx = dx ∧ cy = dy) then riV ax ay bx by_ cx cy dx dy = 1
  else if lxP dx dy ax ay ∧ lxP dx dy bx by_ ∧ lxP dx dy cx cy then True
  else if ¬ lxP bx by_ ax ay ∧ ¬ lxP cx cy ax ay then sg (twV bx by_ cx cy ax ay) * sg (twV bx by_ cx cy dx dy) < 0
  else if ¬ lxP ax ay bx by_ ∧ ¬ lxP cx cy bx by_ then sg (twV ax ay cx cy bx by_) * sg (twV ax ay cx cy dx dy) < 0
  else sg (twV ax ay bx by_ cx cy) * sg (twV ax ay bx by_ dx dy) < 0)
theorem sg_zero {x : Int} : sg x = 0 ↔ x = 0 := by unfold sg; constructor <;> intro h <;> (try split at h) <;> (try split at h) <;> first | omega | (subst h; rfl)
theorem sg_neg (x : Int) : sg (-x) = -sg x := by
  unfold sg
  rcases Int.lt_trichotomy x 0 with z | z | z
  · rw [if_pos (by omega), if_neg (by omega), if_pos z]; rfl
  · rw [z]; rfl
  · rw [if_neg (by omega), if_pos (by omega), if_pos z]
end GM

/-! Who spoils whom: a telling that is alike in all orders; heights that tell it. -/
namespace GM
abbrev Pt := Int × Int
abbrev tw (a b c : Pt) : Int := twV a.1 a.2 b.1 b.2 c.1 c.2
abbrev he (a d : Pt) : Int := heV a.1 a.2 d.1 d.2
abbrev bo (a b c d : Pt) : Int := boV a.1 a.2 b.1 b.2 c.1 c.2 d.1 d.2
abbrev ri (a b c d : Pt) : Int := riV a.1 a.2 b.1 b.2 c.1 c.2 d.1 d.2
abbrev lx (a b : Pt) : Prop := lxP a.1 a.2 b.1 b.2
abbrev sp (a b c d : Pt) : Bool := spV a.1 a.2 b.1 b.2 c.1 c.2 d.1 d.2
theorem pt_eq {a b : Pt} : a = b ↔ a.1 = b.1 ∧ a.2 = b.2 := Prod.ext_iff
theorem lx_irr {a : Pt} : ¬ lx a a := by unfold lx lxP; omega
theorem lx_tr {a b c : Pt} (h : lx a b) (h2 : lx b c) : lx a c := by unfold lx lxP at *; omega
theorem lx_as {a b : Pt} (h : lx a b) : ¬ lx b a := by unfold lx lxP at *; omega
theorem lx_or {a b : Pt} (h : a ≠ b) : lx a b ∨ lx b a := by
  have : ¬ (a.1 = b.1 ∧ a.2 = b.2) := fun z => h (pt_eq.mpr z)
  unfold lx lxP; omega
theorem lx_ne {a b : Pt} (h : lx a b) : a ≠ b := fun e => lx_irr (e ▸ h)
theorem nlx {a b : Pt} : ¬ lx a b ↔ a = b ∨ lx b a := by
  constructor
  · intro h
    by_cases e : a = b
    · exact .inl e
    · rcases lx_or e with z | z
      · exact absurd z h
      · exact .inr z
  · rintro (rfl | z)
    · exact lx_irr
    · exact lx_as z
theorem sg_pos {x : Int} (h : 0 < x) : sg x = 1 := by unfold sg; rw [if_pos h]
theorem sg_lt {x : Int} (h : x < 0) : sg x = -1 := by unfold sg; rw [if_neg (by omega), if_pos h]
theorem sg_cases (x : Int) : (0 < x ∧ sg x = 1) ∨ (x = 0 ∧ sg x = 0) ∨ (x < 0 ∧ sg x = -1) := by
  rcases Int.lt_trichotomy x 0 with z | z | z
  · exact .inr (.inr ⟨z, sg_lt z⟩)
  · exact .inr (.inl ⟨z, by rw [z]; rfl⟩)
  · exact .inl ⟨z, sg_pos z⟩
theorem sg_iff {x y : Int} : sg x * sg y < 0 ↔ (0 < x ∧ y < 0) ∨ (x < 0 ∧ 0 < y) := by
  rcases sg_cases x with ⟨h, e⟩ | ⟨h, e⟩ | ⟨h, e⟩ <;> rcases sg_cases y with ⟨k, f⟩ | ⟨k, f⟩ | ⟨k, f⟩ <;> rw [e, f] <;> omega
theorem sg_mul (x y : Int) : sg (x * y) = sg x * sg y := by
  rcases Int.lt_trichotomy x 0 with a | a | a
  · rcases Int.lt_trichotomy y 0 with b | b | b
    · rw [sg_pos (Int.mul_pos_of_neg_of_neg a b), sg_lt a, sg_lt b]; rfl
    · rw [b, Int.mul_zero, show sg 0 = 0 from rfl, Int.mul_zero]
    · rw [sg_lt (Int.mul_neg_of_neg_of_pos a b), sg_lt a, sg_pos b]; rfl
  · rw [a, Int.zero_mul, show sg 0 = 0 from rfl, Int.zero_mul]
  · rcases Int.lt_trichotomy y 0 with b | b | b
    · rw [sg_lt (Int.mul_neg_of_pos_of_neg a b), sg_pos a, sg_lt b]; rfl
    · rw [b, Int.mul_zero, show sg 0 = 0 from rfl, Int.mul_zero]
    · rw [sg_pos (Int.mul_pos a b), sg_pos a, sg_pos b]; rfl
theorem ri_iff {a b c d : Pt} : (ri a b c d = 1 ↔ 0 < tw a b c * bo a b c d) ∧ (ri a b c d = 0 ↔ tw a b c * bo a b c d = 0) ∧ (ri a b c d = -1 ↔ tw a b c * bo a b c d < 0) := by
  have e : ri a b c d = sg (tw a b c * bo a b c d) := (sg_mul _ _).symm
  rw [e]
  rcases sg_cases (tw a b c * bo a b c d) with ⟨h, e⟩ | ⟨h, e⟩ | ⟨h, e⟩ <;> rw [e] <;> omega
theorem tw_rot (a b c : Pt) : tw b c a = tw a b c := by unfold tw twV; grind
theorem tw_rot' (a b c : Pt) : tw c a b = tw a b c := by unfold tw twV; grind
theorem tw_sw (a b c : Pt) : tw b a c = -tw a b c := by unfold tw twV; grind
theorem tw_sw' (a b c : Pt) : tw a c b = -tw a b c := by unfold tw twV; grind
theorem tw_sw2 (a b c : Pt) : tw c b a = -tw a b c := by unfold tw twV; grind
theorem tw_aa (a b : Pt) : tw a a b = 0 := by unfold tw twV; grind
theorem tw_abb (a b : Pt) : tw a b b = 0 := by unfold tw twV; grind
theorem tw_aba (a b : Pt) : tw a b a = 0 := by unfold tw twV; grind
theorem tw_four (a b c d : Pt) : tw a b c = tw d b c + tw a d c + tw a b d := by unfold tw twV; grind
theorem bo_rot (a b c d : Pt) : bo b c a d = bo a b c d := by unfold bo boV heV twV; grind
theorem bo_sw (a b c d : Pt) : bo b a c d = -bo a b c d := by unfold bo boV heV twV; grind
theorem bo_sw' (a b c d : Pt) : bo a b d c = -bo a b c d := by unfold bo boV heV twV; grind
theorem ne_of_tw {a b c : Pt} (h : tw a b c ≠ 0) : a ≠ b ∧ a ≠ c ∧ b ≠ c :=
  ⟨fun e => h (by rw [e]; exact tw_aa _ _), fun e => h (by rw [e]; exact tw_aba _ _), fun e => h (by rw [e]; exact tw_abb _ _)⟩
/-- d and the least of the others on unlike sides, or d is the least -/
def tie (a b c d : Pt) : Prop := (lx d a ∧ lx d b ∧ lx d c) ∨ (lx a b ∧ lx a c ∧ lx a d ∧ sg (tw b c a) * sg (tw b c d) < 0) ∨ (lx b a ∧ lx b c ∧ lx b d ∧ sg (tw a c b) * sg (tw a c d) < 0) ∨ (lx c a ∧ lx c b ∧ lx c d ∧ sg (tw a b c) * sg (tw a b d) < 0)
def spP (a b c d : Pt) : Prop := 0 < tw a b c * bo a b c d ∨ (bo a b c d = 0 ∧ d ≠ a ∧ d ≠ b ∧ d ≠ c ∧ tie a b c d)
theorem sp_char {a b c d : Pt} (h : tw a b c ≠ 0) : sp a b c d = true ↔ spP a b c d := by
  obtain ⟨nab, nac, nbc⟩ := ne_of_tw h
  obtain ⟨r1, r0, r2⟩ := ri_iff (a := a) (b := b) (c := c) (d := d)
  have rz : ri a b c d = 0 ↔ bo a b c d = 0 := r0.trans ⟨fun z => by rcases Int.mul_eq_zero.mp z with y | y; exact absurd y h; exact y, fun z => by rw [z]; exact Int.mul_zero _⟩
  show decide _ = true ↔ _
  rw [decide_eq_true_iff]
  unfold spP
  by_cases c0 : bo a b c d = 0
  · have z1 : ¬ 0 < tw a b c * bo a b c d := by rw [c0, Int.mul_zero]; decide
    have rn : ri a b c d = 0 := rz.mpr c0
    by_cases cd : d ≠ a ∧ d ≠ b ∧ d ≠ c
    · obtain ⟨da, db, dc⟩ := cd
      rw [if_neg (by
        rintro (z | z | z | z)
        · exact z rn
        · exact da (pt_eq.mpr ⟨z.1.symm, z.2.symm⟩)
        · exact db (pt_eq.mpr ⟨z.1.symm, z.2.symm⟩)
        · exact dc (pt_eq.mpr ⟨z.1.symm, z.2.symm⟩))]
      have lo : ∀ {x y : Pt}, ¬ lx x y → x ≠ y → lx y x := fun hn hne => (nlx.mp hn).resolve_left hne
      by_cases c1 : lx d a ∧ lx d b ∧ lx d c
      · rw [if_pos c1]
        exact ⟨fun _ => .inr ⟨c0, da, db, dc, .inl c1⟩, fun _ => trivial⟩
      · rw [if_neg c1]
        by_cases c2 : ¬ lx b a ∧ ¬ lx c a
        · rw [if_pos c2]
          have ab := lo c2.1 nab.symm
          have ac := lo c2.2 nac.symm
          have ad : lx a d := lo (fun z => c1 ⟨z, lx_tr z ab, lx_tr z ac⟩) da
          constructor
          · exact fun z => .inr ⟨c0, da, db, dc, .inr (.inl ⟨ab, ac, ad, z⟩)⟩
          · rintro (z | ⟨_, _, _, _, z | z | z | z⟩)
            · exact absurd z z1
            · exact absurd z c1
            · exact z.2.2.2
            · exact absurd z.1 c2.1
            · exact absurd z.1 c2.2
        · rw [if_neg c2]
          by_cases c3 : ¬ lx a b ∧ ¬ lx c b
          · rw [if_pos c3]
            have ba := lo c3.1 nab
            have bc := lo c3.2 nbc.symm
            have bd : lx b d := lo (fun z => c1 ⟨lx_tr z ba, z, lx_tr z bc⟩) db
            constructor
            · exact fun z => .inr ⟨c0, da, db, dc, .inr (.inr (.inl ⟨ba, bc, bd, z⟩))⟩
            · rintro (z | ⟨_, _, _, _, z | z | z | z⟩)
              · exact absurd z z1
              · exact absurd z c1
              · exact absurd z.1 c3.1
              · exact z.2.2.2
              · exact absurd z.2.1 c3.2
          · rw [if_neg c3]
            have ca : lx c a ∧ lx c b := by
              rcases lx_or nab with z | z
              · have y : lx c a := Decidable.byContradiction fun y => c2 ⟨lx_as z, y⟩
                exact ⟨y, lx_tr y z⟩
              · have y : lx c b := Decidable.byContradiction fun y => c3 ⟨lx_as z, y⟩
                exact ⟨lx_tr y z, y⟩
            have cd : lx c d := lo (fun z => c1 ⟨lx_tr z ca.1, lx_tr z ca.2, z⟩) dc
            constructor
            · exact fun z => .inr ⟨c0, da, db, dc, .inr (.inr (.inr ⟨ca.1, ca.2, cd, z⟩))⟩
            · rintro (z | ⟨_, _, _, _, z | z | z | z⟩)
              · exact absurd z z1
              · exact absurd z c1
              · exact absurd z.2.1 (lx_as ca.1)
              · exact absurd z.2.1 (lx_as ca.2)
              · exact z.2.2.2
    · rw [if_pos (by
        by_cases e1 : d = a
        · subst e1; exact .inr (.inl ⟨rfl, rfl⟩)
        · by_cases e2 : d = b
          · subst e2; exact .inr (.inr (.inl ⟨rfl, rfl⟩))
          · by_cases e3 : d = c
            · subst e3; exact .inr (.inr (.inr ⟨rfl, rfl⟩))
            · exact absurd ⟨e1, e2, e3⟩ cd)]
      constructor
      · intro z; rw [show riV a.1 a.2 b.1 b.2 c.1 c.2 d.1 d.2 = 0 from rn] at z; omega
      · rintro (z | ⟨_, z1, z2, z3, _⟩)
        · exact absurd z z1
        · exact absurd ⟨z1, z2, z3⟩ cd
  · have rn : ri a b c d ≠ 0 := fun z => c0 (rz.mp z)
    rw [if_pos (.inl rn)]
    constructor
    · exact fun z => .inl (r1.mp z)
    · rintro (z | ⟨z, _⟩)
      · exact r1.mpr z
      · exact absurd z c0
theorem tie_rot {a b c d : Pt} : tie b c a d ↔ tie a b c d := by
  unfold tie
  rw [tw_rot a b c, tw_rot b c a, tw_rot a b c, show tw b a c = -tw a b c from tw_sw a b c, show tw b a d = -tw a b d from tw_sw a b d, show tw a c b = -tw a b c from tw_sw' a b c, show tw c a d = -tw a c d from tw_sw a c d, sg_neg, sg_neg, sg_neg, Int.neg_mul_neg, Int.mul_neg, Int.neg_mul]
  constructor
  · rintro (⟨h1, h2, h3⟩ | ⟨h1, h2, h3, h4⟩ | ⟨h1, h2, h3, h4⟩ | ⟨h1, h2, h3, h4⟩)
    · exact .inl ⟨h3, h1, h2⟩
    · exact .inr (.inr (.inl ⟨h2, h1, h3, h4⟩))
    · exact .inr (.inr (.inr ⟨h2, h1, h3, h4⟩))
    · exact .inr (.inl ⟨h1, h2, h3, h4⟩)
  · rintro (⟨h1, h2, h3⟩ | ⟨h1, h2, h3, h4⟩ | ⟨h1, h2, h3, h4⟩ | ⟨h1, h2, h3, h4⟩)
    · exact .inl ⟨h2, h3, h1⟩
    · exact .inr (.inr (.inr ⟨h1, h2, h3, h4⟩))
    · exact .inr (.inl ⟨h2, h1, h3, h4⟩)
    · exact .inr (.inr (.inl ⟨h2, h1, h3, h4⟩))
theorem tie_sw {a b c d : Pt} : tie b a c d ↔ tie a b c d := by
  unfold tie
  rw [show tw b a c = -tw a b c from tw_sw a b c, show tw b a d = -tw a b d from tw_sw a b d, sg_neg, sg_neg, Int.neg_mul_neg]
  constructor
  · rintro (⟨h1, h2, h3⟩ | ⟨h1, h2, h3, h4⟩ | ⟨h1, h2, h3, h4⟩ | ⟨h1, h2, h3, h4⟩)
    · exact .inl ⟨h2, h1, h3⟩
    · exact .inr (.inr (.inl ⟨h1, h2, h3, h4⟩))
    · exact .inr (.inl ⟨h1, h2, h3, h4⟩)
    · exact .inr (.inr (.inr ⟨h2, h1, h3, h4⟩))
  · rintro (⟨h1, h2, h3⟩ | ⟨h1, h2, h3, h4⟩ | ⟨h1, h2, h3, h4⟩ | ⟨h1, h2, h3, h4⟩)
    · exact .inl ⟨h2, h1, h3⟩
    · exact .inr (.inr (.inl ⟨h1, h2, h3, h4⟩))
    · exact .inr (.inl ⟨h1, h2, h3, h4⟩)
    · exact .inr (.inr (.inr ⟨h2, h1, h3, h4⟩))
theorem spP_rot {a b c d : Pt} : spP b c a d ↔ spP a b c d := by
  unfold spP
  rw [tw_rot, bo_rot, tie_rot]
  constructor
  · rintro (h | ⟨h0, h1, h2, h3, h4⟩)
    · exact .inl h
    · exact .inr ⟨h0, h3, h1, h2, h4⟩
  · rintro (h | ⟨h0, h1, h2, h3, h4⟩)
    · exact .inl h
    · exact .inr ⟨h0, h2, h3, h1, h4⟩
theorem spP_sw {a b c d : Pt} : spP b a c d ↔ spP a b c d := by
  unfold spP
  rw [tw_sw, bo_sw, tie_sw, Int.neg_mul_neg, Int.neg_eq_zero]
  constructor
  · rintro (h | ⟨h0, h1, h2, h3, h4⟩)
    · exact .inl h
    · exact .inr ⟨h0, h2, h1, h3, h4⟩
  · rintro (h | ⟨h0, h1, h2, h3, h4⟩)
    · exact .inl h
    · exact .inr ⟨h0, h2, h1, h3, h4⟩
theorem bool_iff {x y : Bool} {p q : Prop} (h1 : x = true ↔ p) (h2 : y = true ↔ q) (h : p ↔ q) : x = y := by
  cases x <;> cases y <;> simp_all
theorem sp_rot {a b c d : Pt} (h : tw a b c ≠ 0) : sp b c a d = sp a b c d := bool_iff (sp_char (by rw [tw_rot]; exact h)) (sp_char h) spP_rot
theorem sp_sw {a b c d : Pt} (h : tw a b c ≠ 0) : sp b a c d = sp a b c d := bool_iff (sp_char (by rw [tw_sw]; omega)) (sp_char h) spP_sw
theorem sp_sw' {a b c d : Pt} (h : tw a b c ≠ 0) : sp a c b d = sp a b c d := by
  rw [← sp_rot (a := a) (b := c) (c := b) (by rw [tw_sw']; omega), sp_sw (a := b) (b := c) (c := a) (by rw [tw_rot]; exact h), sp_rot h]
theorem sp_self {a b c d : Pt} (h : tw a b c ≠ 0) (hd : d = a ∨ d = b ∨ d = c) : sp a b c d = false := by
  have := sp_char (d := d) h
  cases e : sp a b c d with
  | false => rfl
  | true =>
    exfalso
    rcases this.mp e with z | ⟨_, h1, h2, h3, _⟩
    · have : bo a b c d = 0 := by
        rcases hd with rfl | rfl | rfl
        · unfold bo boV heV twV; grind
        · unfold bo boV heV twV; grind
        · unfold bo boV heV twV; grind
      rw [this, Int.mul_zero] at z; omega
    · rcases hd with e | e | e
      · exact h1 e
      · exact h2 e
      · exact h3 e
theorem sq_nn (a : Int) : 0 ≤ a * a := by
  rcases Int.lt_trichotomy a 0 with z | z | z
  · exact Int.le_of_lt (Int.mul_pos_of_neg_of_neg z z)
  · rw [z]; decide
  · exact Int.le_of_lt (Int.mul_pos z z)
theorem sq_p {a : Int} (h : a ≠ 0) : 0 < a * a := by
  rcases Int.lt_trichotomy a 0 with z | z | z
  · exact Int.mul_pos_of_neg_of_neg z z
  · exact absurd z h
  · exact Int.mul_pos z z
theorem he_pos {a b : Pt} (h : a ≠ b) : 0 < he a b := by
  show 0 < (a.1 - b.1) * (a.1 - b.1) + (a.2 - b.2) * (a.2 - b.2)
  have h1 := sq_nn (a.1 - b.1)
  have h2 := sq_nn (a.2 - b.2)
  by_cases e : a.1 = b.1
  · have := sq_p (show a.2 - b.2 ≠ 0 by intro z; exact h (pt_eq.mpr ⟨e, by omega⟩))
    omega
  · have := sq_p (show a.1 - b.1 ≠ 0 by omega)
    omega
theorem he_comm (a b : Pt) : he a b = he b a := by unfold he heV; grind
theorem line1 (a b c d : Pt) : (d.1 - b.1) * tw a b c = tw d a b * (c.1 - b.1) + tw d b c * (a.1 - b.1) := by unfold tw twV; grind
theorem line2 (a b c d : Pt) : (d.2 - b.2) * tw a b c = tw d a b * (c.2 - b.2) + tw d b c * (a.2 - b.2) := by unfold tw twV; grind
theorem sq_mul {x y t : Int} (h : x * t = y) : x * x * (t * t) = y * y := by rw [← h, Int.mul_assoc, Int.mul_assoc]; congr 1; rw [← Int.mul_assoc, Int.mul_comm t (x * t)]
theorem on_line {a b c d : Pt} (hl : tw d b c = 0) : he b d * (tw a b c * tw a b c) = tw d a b * tw d a b * he b c := by
  have z1 := line1 a b c d
  have z2 := line2 a b c d
  rw [hl, Int.zero_mul, Int.add_zero] at z1 z2
  have y1 := sq_mul z1
  have y2 := sq_mul z2
  show ((b.1 - d.1) * (b.1 - d.1) + (b.2 - d.2) * (b.2 - d.2)) * (tw a b c * tw a b c) = tw d a b * tw d a b * ((b.1 - c.1) * (b.1 - c.1) + (b.2 - c.2) * (b.2 - c.2))
  generalize tw a b c = t at *
  generalize tw d a b = u at *
  clear z1 z2 hl
  have e1 : ∀ x y : Int, (x - y) * (x - y) = (y - x) * (y - x) := fun x y => by grind
  rw [e1 b.1, e1 b.2, Int.add_mul, y1, y2, e1 b.1, e1 b.2]
  clear y1 y2
  grind
theorem ring_line (L s t : Int) : L * (s * t) * (s + t) * (s + t) = (t * t * L * s + s * s * L * t) * (s + t) := by grind
theorem at_end {a b c d : Pt} (h : tw a b c ≠ 0) (hl : tw d b c = 0) (e : tw d a b = 0) : d = b := by
  have z1 := line1 a b c d
  have z2 := line2 a b c d
  rw [hl, e, Int.zero_mul, Int.zero_mul] at z1 z2
  rcases Int.mul_eq_zero.mp z1 with y1 | y1
  · rcases Int.mul_eq_zero.mp z2 with y2 | y2
    · exact pt_eq.mpr ⟨by omega, by omega⟩
    · exact absurd y2 h
  · exact absurd y1 h
/-- on a line with b, c and on the ring: an end -/
theorem on_ring {a b c d : Pt} (h : tw a b c ≠ 0) (h0 : bo a b c d = 0) (hl : tw d b c = 0) : d = b ∨ d = c := by
  obtain ⟨nab, nac, nbc⟩ := ne_of_tw h
  have q1 := on_line (a := a) hl
  have q2 : he c d * (tw a b c * tw a b c) = tw d c a * tw d c a * he b c := by
    have q := on_line (a := a) (b := c) (c := b) (d := d) (by rw [tw_sw']; omega)
    rw [tw_sw', Int.neg_mul_neg, he_comm c b] at q
    rw [q, show tw d a c = -tw d c a from tw_sw' d c a, Int.neg_mul_neg]
  have q4 : tw a b c = tw d c a + tw d a b := by
    have := tw_four a b c d
    rw [hl] at this
    have e : tw a d c = tw d c a := (tw_rot a d c).symm
    have e2 : tw a b d = tw d a b := (tw_rot' a b d).symm
    omega
  have q3 : he b d * tw d c a + he c d * tw d a b = 0 := by
    have : bo a b c d = he a d * tw d b c + he b d * tw d c a + he c d * tw d a b := rfl
    rw [h0, hl, Int.mul_zero, Int.zero_add] at this
    exact this.symm
  have e1 : he b c * (tw d c a * tw d a b) * tw a b c = 0 := by
    have : (he b d * tw d c a + he c d * tw d a b) * (tw a b c * tw a b c) = (he b d * (tw a b c * tw a b c)) * tw d c a + (he c d * (tw a b c * tw a b c)) * tw d a b := by
      generalize he b d = x; generalize he c d = y; generalize tw d c a = s; generalize tw d a b = t; generalize tw a b c = u; clear q1 q2 q3 q4; grind
    rw [q3, q1, q2, Int.zero_mul] at this
    rw [q4]
    generalize he b c = L at *; generalize tw d c a = s at *; generalize tw d a b = t at *
    clear q1 q2 q3 q4 h h0 hl
    grind
  have hb := he_pos nbc
  rcases Int.mul_eq_zero.mp e1 with e1 | e1
  · rcases Int.mul_eq_zero.mp e1 with e1 | e1
    · omega
    · rcases Int.mul_eq_zero.mp e1 with e | e
      · exact .inr (at_end (a := a) (b := c) (c := b) (by rw [tw_sw']; omega) (by rw [tw_sw']; omega) (by rw [tw_sw']; omega))
      · exact .inl (at_end h hl e)
  · exact absurd e1 h
end GM

/-! Heights that tell who spoils whom, ties and all. -/
namespace GM
/-- how far d stands over the plane of a, b, c (times the area), heights by h -/
def pw (h : Pt → Int) (a b c d : Pt) : Int := h d * tw a b c - (h a * tw d b c + h b * tw a d c + h c * tw a b d)
def nm (x : Pt) : Int := x.1 * x.1 + x.2 * x.2
theorem boV_nm (ax ay bx by_ cx cy dx dy : Int) : boV ax ay bx by_ cx cy dx dy = (ax * ax + ay * ay) * twV dx dy bx by_ cx cy + (bx * bx + by_ * by_) * twV ax ay dx dy cx cy + (cx * cx + cy * cy) * twV ax ay bx by_ dx dy - (dx * dx + dy * dy) * twV ax ay bx by_ cx cy := by unfold boV heV twV; grind
theorem pw_nm (a b c d : Pt) : pw nm a b c d = -bo a b c d := by
  have := boV_nm a.1 a.2 b.1 b.2 c.1 c.2 d.1 d.2
  show nm d * tw a b c - (nm a * tw d b c + nm b * tw a d c + nm c * tw a b d) = -bo a b c d
  rw [show bo a b c d = nm a * tw d b c + nm b * tw a d c + nm c * tw a b d - nm d * tw a b c from this]
  omega
theorem pw_lin (N : Int) (u v : Pt → Int) (a b c d : Pt) : pw (fun x => N * u x - v x) a b c d = N * pw u a b c d - pw v a b c d := by
  unfold pw
  generalize tw a b c = T; generalize tw d b c = A; generalize tw a d c = B; generalize tw a b d = C
  grind
/-! the largest of a few -/
theorem bound {α : Type} (f : α → Int) : ∀ xs : List α, ∃ B : Int, 1 ≤ B ∧ ∀ x ∈ xs, f x ≤ B
  | [] => ⟨1, by omega, fun x h => by cases h⟩
  | x :: xs => by
    obtain ⟨B, h1, h2⟩ := bound f xs
    refine ⟨B + (if 0 ≤ f x then f x else 0), by split <;> omega, fun y hy => ?_⟩
    rcases List.mem_cons.mp hy with rfl | hy
    · split <;> omega
    · have := h2 y hy
      split <;> omega
theorem bound_tw (P : List Pt) : ∃ C : Int, 1 ≤ C ∧ ∀ a ∈ P, ∀ b ∈ P, ∀ c ∈ P, -C ≤ tw a b c ∧ tw a b c ≤ C := by
  obtain ⟨B, h1, h2⟩ := bound (fun t : Pt × Pt × Pt => (tw t.1 t.2.1 t.2.2).natAbs) (P.flatMap fun a => P.flatMap fun b => P.map fun c => (a, b, c))
  refine ⟨B, h1, fun a ha b hb c hc => ?_⟩
  have := h2 (a, b, c) (List.mem_flatMap.mpr ⟨a, ha, List.mem_flatMap.mpr ⟨b, hb, List.mem_map.mpr ⟨c, hc, rfl⟩⟩⟩)
  have : ((tw a b c).natAbs : Int) ≤ B := this
  omega
/-! weights: the lesser, the heavier by far -/
def later (P : List Pt) (x : Pt) : Nat := P.countP fun y => decide (lx x y)
theorem later_lt {P : List Pt} {x y : Pt} (h : lx x y) (hy : y ∈ P) : later P y < later P x := by
  unfold later
  induction P with
  | nil => cases hy
  | cons z P ih =>
    have mono : P.countP (fun z => decide (lx y z)) ≤ P.countP (fun z => decide (lx x z)) := List.countP_mono_left fun z _ hz => by
      have : lx y z := by simpa using hz
      simpa using lx_tr h this
    rw [List.countP_cons, List.countP_cons]
    rcases List.mem_cons.mp hy with rfl | hy
    · rw [if_neg (by simpa using lx_irr), if_pos (by simpa using h)]
      omega
    · have := ih hy
      by_cases hz : lx y z
      · rw [if_pos (by simpa using hz), if_pos (by simpa using lx_tr h hz)]; omega
      · rw [if_neg (by simpa using hz)]; split <;> omega
def wt (M : Int) (P : List Pt) (x : Pt) : Int := M ^ later P x
theorem wt_pos {M : Int} (h : 1 ≤ M) (P : List Pt) (x : Pt) : 1 ≤ wt M P x := by
  unfold wt
  have : 0 < M ^ later P x := Int.pow_pos (by omega)
  omega
theorem wt_lt {M : Int} (h : 1 ≤ M) {P : List Pt} {x y : Pt} (hl : lx x y) (hy : y ∈ P) : M * wt M P y ≤ wt M P x := by
  unfold wt
  have l := later_lt hl hy
  obtain ⟨k, hk⟩ : ∃ k, later P x = later P y + 1 + k := ⟨later P x - (later P y + 1), by omega⟩
  rw [hk, Int.pow_add, Int.pow_succ, Int.mul_comm M]
  have p : 0 < M ^ k := Int.pow_pos (by omega)
  have q : 0 < M ^ later P y := Int.pow_pos (by omega)
  have r := Int.mul_pos q (show 0 < M by omega)
  calc M ^ later P y * M = M ^ later P y * M * 1 := (Int.mul_one _).symm
    _ ≤ M ^ later P y * M * M ^ k := Int.mul_le_mul_of_nonneg_left (by omega) (Int.le_of_lt r)
/-- the heaviest decides -/
theorem dom {C wl s1 s2 s3 t t1 t2 t3 : Int} (hC : 1 ≤ C) (hw : 1 ≤ wl) (p1 : 0 ≤ s1) (p2 : 0 ≤ s2) (p3 : 0 ≤ s3) (m1 : (3 * C + 1) * s1 ≤ wl) (m2 : (3 * C + 1) * s2 ≤ wl) (m3 : (3 * C + 1) * s3 ≤ wl)
    (b1 : -C ≤ t1 ∧ t1 ≤ C) (b2 : -C ≤ t2 ∧ t2 ≤ C) (b3 : -C ≤ t3 ∧ t3 ≤ C) : (0 < t → 0 < wl * t + (s1 * t1 + s2 * t2 + s3 * t3)) ∧ (t < 0 → wl * t + (s1 * t1 + s2 * t2 + s3 * t3) < 0) := by
  have key : ∀ {s t' : Int}, 0 ≤ s → (3 * C + 1) * s ≤ wl → -C ≤ t' ∧ t' ≤ C → -(C * wl) ≤ (3 * C + 1) * (s * t') ∧ (3 * C + 1) * (s * t') ≤ C * wl := by
    intro s t' hs hm ht
    have h1 : s * -C ≤ s * t' := Int.mul_le_mul_of_nonneg_left ht.1 hs
    have h2 : s * t' ≤ s * C := Int.mul_le_mul_of_nonneg_left ht.2 hs
    have h3 : C * ((3 * C + 1) * s) ≤ C * wl := Int.mul_le_mul_of_nonneg_left hm (by omega)
    have h4 : (3 * C + 1) * (s * -C) ≤ (3 * C + 1) * (s * t') := Int.mul_le_mul_of_nonneg_left h1 (by omega)
    have h5 : (3 * C + 1) * (s * t') ≤ (3 * C + 1) * (s * C) := Int.mul_le_mul_of_nonneg_left h2 (by omega)
    have e1 : (3 * C + 1) * (s * C) = C * ((3 * C + 1) * s) := by rw [Int.mul_comm s C, Int.mul_left_comm]
    have e2 : (3 * C + 1) * (s * -C) = -(C * ((3 * C + 1) * s)) := by rw [Int.mul_neg, Int.mul_neg, e1]
    omega
  obtain ⟨k1, k1'⟩ := key p1 m1 b1
  obtain ⟨k2, k2'⟩ := key p2 m2 b2
  obtain ⟨k3, k3'⟩ := key p3 m3 b3
  have e : (3 * C + 1) * (wl * t + (s1 * t1 + s2 * t2 + s3 * t3)) = (3 * C + 1) * (wl * t) + ((3 * C + 1) * (s1 * t1) + (3 * C + 1) * (s2 * t2) + (3 * C + 1) * (s3 * t3)) := by
    rw [Int.mul_add, Int.mul_add, Int.mul_add]
  have ex : (3 * C + 1) * wl = 3 * (C * wl) + wl := by rw [Int.add_mul, Int.mul_assoc, Int.one_mul]
  generalize wl * t + (s1 * t1 + s2 * t2 + s3 * t3) = X at *
  generalize (3 * C + 1) * (s1 * t1) = Y1 at *
  generalize (3 * C + 1) * (s2 * t2) = Y2 at *
  generalize (3 * C + 1) * (s3 * t3) = Y3 at *
  constructor
  · intro ht
    have h : (3 * C + 1) * wl ≤ (3 * C + 1) * (wl * t) := Int.mul_le_mul_of_nonneg_left (by
      calc wl = wl * 1 := (Int.mul_one _).symm
        _ ≤ wl * t := Int.mul_le_mul_of_nonneg_left (by omega) (by omega)) (by omega)
    have pos : 0 < (3 * C + 1) * X := by omega
    rcases Int.lt_trichotomy X 0 with z | z | z
    · have := Int.mul_neg_of_pos_of_neg (show 0 < 3 * C + 1 by omega) z; omega
    · rw [z, Int.mul_zero] at pos; omega
    · exact z
  · intro ht
    have h : (3 * C + 1) * (wl * t) ≤ (3 * C + 1) * (-wl) := Int.mul_le_mul_of_nonneg_left (by
      calc wl * t ≤ wl * -1 := Int.mul_le_mul_of_nonneg_left (by omega) (by omega)
        _ = -wl := by omega) (by omega)
    rw [Int.mul_neg] at h
    have neg : (3 * C + 1) * X < 0 := by omega
    rcases Int.lt_trichotomy X 0 with z | z | z
    · exact z
    · rw [z, Int.mul_zero] at neg; omega
    · have := Int.mul_pos (show 0 < 3 * C + 1 by omega) z; omega
theorem ring_off {a b c d : Pt} (h : tw a b c ≠ 0) (b0 : bo a b c d = 0) (ha : d ≠ a) (hb : d ≠ b) (hc : d ≠ c) : tw d b c ≠ 0 ∧ tw a d c ≠ 0 ∧ tw a b d ≠ 0 := by
  refine ⟨fun z => ?_, fun z => ?_, fun z => ?_⟩
  · rcases on_ring h b0 z with e | e
    · exact hb e
    · exact hc e
  · rcases on_ring (a := b) (b := c) (c := a) (by rw [tw_rot]; exact h) (by rw [bo_rot]; exact b0) (show tw d c a = 0 by rw [tw_rot]; exact z) with e | e
    · exact hc e
    · exact ha e
  · rcases on_ring (a := c) (b := a) (c := b) (by rw [tw_rot']; exact h) (by rw [← bo_rot]; exact b0) (show tw d a b = 0 by rw [tw_rot']; exact z) with e | e
    · exact ha e
    · exact hb e
/-- heights, generic on the places of P -/
structure Hts (P : List Pt) (h : Pt → Int) : Prop where
  nz : ∀ a ∈ P, ∀ b ∈ P, ∀ c ∈ P, ∀ d ∈ P, 0 < tw a b c → d ≠ a → d ≠ b → d ≠ c → pw h a b c d ≠ 0
  sp : ∀ a ∈ P, ∀ b ∈ P, ∀ c ∈ P, ∀ d ∈ P, 0 < tw a b c → (sp a b c d = true ↔ pw h a b c d < 0)
theorem pw_self {h : Pt → Int} {a b c d : Pt} (hd : d = a ∨ d = b ∨ d = c) : pw h a b c d = 0 := by
  unfold pw
  rcases hd with rfl | rfl | rfl
  · rw [tw_aa, tw_aba]; omega
  · rw [tw_aa, tw_abb]; omega
  · rw [tw_aba, tw_abb]; omega
theorem heights (P : List Pt) : ∃ h : Pt → Int, Hts P h := by
  obtain ⟨C, hC, hb⟩ := bound_tw P
  let w := wt (3 * C + 1) P
  obtain ⟨W, hW, hw⟩ := bound w P
  let N := 4 * (C * W) + 1
  let h : Pt → Int := fun x => N * nm x - w x
  have wp : ∀ x, 1 ≤ w x := fun x => wt_pos (by omega) P x
  have wl : ∀ {x y : Pt}, lx x y → y ∈ P → (3 * C + 1) * w y ≤ w x := fun hl hy => wt_lt (by omega) hl hy
  have key : ∀ a ∈ P, ∀ b ∈ P, ∀ c ∈ P, ∀ d ∈ P, 0 < tw a b c → d ≠ a → d ≠ b → d ≠ c → pw h a b c d ≠ 0 ∧ (GM.sp a b c d = true ↔ pw h a b c d < 0) := by
    intro a ha b hB c hc d hd ht na nb nc
    have e : pw h a b c d = N * -bo a b c d - pw w a b c d := by rw [← pw_nm]; exact pw_lin N nm w a b c d
    have nt : tw a b c ≠ 0 := by omega
    have ba := hb d hd b hB c hc
    have bb := hb a ha d hd c hc
    have bc := hb a ha b hB d hd
    have bT := hb a ha b hB c hc
    have hch := sp_char (d := d) nt
    have mb : ∀ {x t : Int}, 1 ≤ x → x ≤ W → -C ≤ t ∧ t ≤ C → -(C * W) ≤ x * t ∧ x * t ≤ C * W := by
      intro x t h1 h2 h3
      have q1 : x * t ≤ x * C := Int.mul_le_mul_of_nonneg_left h3.2 (by omega)
      have q2 : x * -C ≤ x * t := Int.mul_le_mul_of_nonneg_left h3.1 (by omega)
      have q3 : C * x ≤ C * W := Int.mul_le_mul_of_nonneg_left h2 (by omega)
      rw [Int.mul_neg, Int.mul_comm x C] at q2
      rw [Int.mul_comm x C] at q1
      omega
    have pb : -(4 * (C * W)) ≤ pw w a b c d ∧ pw w a b c d ≤ 4 * (C * W) := by
      have h1 := mb (wp d) (hw d hd) bT
      have h2 := mb (wp a) (hw a ha) ba
      have h3 := mb (wp b) (hw b hB) bb
      have h4 := mb (wp c) (hw c hc) bc
      unfold pw
      omega
    have hN : 0 < N := by
      have := Int.mul_pos (show 0 < C by omega) (show 0 < W by omega)
      show 0 < 4 * (C * W) + 1
      omega
    rcases Int.lt_trichotomy (bo a b c d) 0 with z | z | z
    · have p : N ≤ N * -bo a b c d := by
        calc N = N * 1 := (Int.mul_one _).symm
          _ ≤ N * -bo a b c d := Int.mul_le_mul_of_nonneg_left (by omega) (by omega)
      have pos : 0 < pw h a b c d := by rw [e]; show 0 < _; have : N = 4 * (C * W) + 1 := rfl; omega
      refine ⟨by omega, fun hs => ?_, fun hs => by omega⟩
      rcases hch.mp hs with y | y
      · have := Int.mul_neg_of_pos_of_neg ht z; omega
      · have := y.1; omega
    · rw [z, Int.neg_zero, Int.mul_zero, Int.zero_sub] at e
      obtain ⟨fa, fb, fc⟩ := ring_off nt z na nb nc
      have htie : GM.sp a b c d = true ↔ tie a b c d := by
        rw [hch]
        unfold spP
        rw [z, Int.mul_zero]
        exact ⟨fun y => by rcases y with y | y; omega; exact y.2.2.2.2, fun y => .inr ⟨rfl, na, nb, nc, y⟩⟩
      obtain ⟨nab, nac, nbc⟩ := ne_of_tw nt
      have w0 : ∀ x, 0 ≤ w x := fun x => by have := wp x; omega
      have ng : ∀ {t : Int}, -C ≤ t ∧ t ≤ C → -C ≤ -t ∧ -t ≤ C := fun h => by omega
      have ro : tw b c d = tw d b c := (tw_rot d b c).symm ▸ rfl
      have ro' : tw b c d = tw d b c := tw_rot d b c
      have ro2 : tw a c d = -tw a d c := tw_sw' a d c
      have ro3 : tw b c a = tw a b c := tw_rot a b c
      have ro4 : tw a c b = -tw a b c := tw_sw' a b c
      -- the least of the four
      rcases lx_or na with da | da
      · rcases lx_or nb with db | db
        · rcases lx_or nc with dc | dc
          · -- d
            have dm := (dom (t := tw a b c) hC (wp d) (w0 a) (w0 b) (w0 c) (wl da ha) (wl db hB) (wl dc hc) (ng ba) (ng bb) (ng bc)).1 ht
            have p : 0 < pw w a b c d := by unfold pw; rw [Int.mul_neg, Int.mul_neg, Int.mul_neg] at dm; omega
            exact ⟨by omega, fun _ => by omega, fun _ => htie.mpr (.inl ⟨da, db, dc⟩)⟩
          · -- c
            have ca := lx_tr dc da
            have cb := lx_tr dc db
            have dm := dom (t := tw a b d) hC (wp c) (w0 d) (w0 a) (w0 b) (wl dc hd) (wl ca ha) (wl cb hB) (ng bT) ba bb
            have e2 : pw h a b c d = w c * tw a b d + (w d * -tw a b c + w a * tw d b c + w b * tw a d c) := by rw [e]; unfold pw; rw [Int.mul_neg]; omega
            have ti : tie a b c d ↔ tw a b d < 0 := by
              unfold tie
              constructor
              · rintro (y | y | y | y)
                · exact absurd y.2.2 (lx_as dc)
                · exact absurd y.2.1 (lx_as ca)
                · exact absurd y.2.1 (lx_as cb)
                · have := sg_iff.mp y.2.2.2; omega
              · exact fun y => .inr (.inr (.inr ⟨ca, cb, dc, sg_iff.mpr (.inl ⟨ht, y⟩)⟩))
            rw [htie, ti, e2]
            rcases Int.lt_trichotomy (tw a b d) 0 with y | y | y
            · have := dm.2 y; exact ⟨by omega, fun _ => this, fun _ => y⟩
            · exact absurd y fc
            · have := dm.1 y; exact ⟨by omega, fun _ => by omega, fun _ => by omega⟩
        · -- b before d, d before a
          have ba' := lx_tr db da
          rcases lx_or nbc with bc' | bc'
          · -- b
            have dm := dom (t := tw a d c) hC (wp b) (w0 d) (w0 a) (w0 c) (wl db hd) (wl ba' ha) (wl bc' hc) (ng bT) ba bc
            have e2 : pw h a b c d = w b * tw a d c + (w d * -tw a b c + w a * tw d b c + w c * tw a b d) := by rw [e]; unfold pw; rw [Int.mul_neg]; omega
            have ti : tie a b c d ↔ tw a d c < 0 := by
              unfold tie
              constructor
              · rintro (y | y | y | y)
                · exact absurd y.2.1 (lx_as db)
                · exact absurd y.1 (lx_as ba')
                · have := sg_iff.mp y.2.2.2; omega
                · exact absurd y.2.1 (lx_as bc')
              · exact fun y => .inr (.inr (.inl ⟨ba', bc', db, sg_iff.mpr (.inr ⟨by omega, by omega⟩)⟩))
            rw [htie, ti, e2]
            rcases Int.lt_trichotomy (tw a d c) 0 with y | y | y
            · have := dm.2 y; exact ⟨by omega, fun _ => this, fun _ => y⟩
            · exact absurd y fb
            · have := dm.1 y; exact ⟨by omega, fun _ => by omega, fun _ => by omega⟩
          · -- c
            have dc := lx_tr bc' db
            have ca := lx_tr dc da
            have cb := bc'
            have dm := dom (t := tw a b d) hC (wp c) (w0 d) (w0 a) (w0 b) (wl dc hd) (wl ca ha) (wl cb hB) (ng bT) ba bb
            have e2 : pw h a b c d = w c * tw a b d + (w d * -tw a b c + w a * tw d b c + w b * tw a d c) := by rw [e]; unfold pw; rw [Int.mul_neg]; omega
            have ti : tie a b c d ↔ tw a b d < 0 := by
              unfold tie
              constructor
              · rintro (y | y | y | y)
                · exact absurd y.2.2 (lx_as dc)
                · exact absurd y.2.1 (lx_as ca)
                · exact absurd y.2.1 (lx_as cb)
                · have := sg_iff.mp y.2.2.2; omega
              · exact fun y => .inr (.inr (.inr ⟨ca, cb, dc, sg_iff.mpr (.inl ⟨ht, y⟩)⟩))
            rw [htie, ti, e2]
            rcases Int.lt_trichotomy (tw a b d) 0 with y | y | y
            · have := dm.2 y; exact ⟨by omega, fun _ => this, fun _ => y⟩
            · exact absurd y fc
            · have := dm.1 y; exact ⟨by omega, fun _ => by omega, fun _ => by omega⟩
      · -- a before d
        rcases lx_or nab with ab | ab
        · rcases lx_or nac with ac | ac
          · -- a
            have dm := dom (t := tw d b c) hC (wp a) (w0 d) (w0 b) (w0 c) (wl da hd) (wl ab hB) (wl ac hc) (ng bT) bb bc
            have e2 : pw h a b c d = w a * tw d b c + (w d * -tw a b c + w b * tw a d c + w c * tw a b d) := by rw [e]; unfold pw; rw [Int.mul_neg]; omega
            have ti : tie a b c d ↔ tw d b c < 0 := by
              unfold tie
              constructor
              · rintro (y | y | y | y)
                · exact absurd y.1 (lx_as da)
                · have := sg_iff.mp y.2.2.2; omega
                · exact absurd y.1 (lx_as ab)
                · exact absurd y.1 (lx_as ac)
              · exact fun y => .inr (.inl ⟨ab, ac, da, sg_iff.mpr (.inl ⟨by omega, by omega⟩)⟩)
            rw [htie, ti, e2]
            rcases Int.lt_trichotomy (tw d b c) 0 with y | y | y
            · have := dm.2 y; exact ⟨by omega, fun _ => this, fun _ => y⟩
            · exact absurd y fa
            · have := dm.1 y; exact ⟨by omega, fun _ => by omega, fun _ => by omega⟩
          · -- c
            have ca := ac
            have cb := lx_tr ca ab
            have dc := lx_tr ca da
            have dm := dom (t := tw a b d) hC (wp c) (w0 d) (w0 a) (w0 b) (wl dc hd) (wl ca ha) (wl cb hB) (ng bT) ba bb
            have e2 : pw h a b c d = w c * tw a b d + (w d * -tw a b c + w a * tw d b c + w b * tw a d c) := by rw [e]; unfold pw; rw [Int.mul_neg]; omega
            have ti : tie a b c d ↔ tw a b d < 0 := by
              unfold tie
              constructor
              · rintro (y | y | y | y)
                · exact absurd y.2.2 (lx_as dc)
                · exact absurd y.2.1 (lx_as ca)
                · exact absurd y.2.1 (lx_as cb)
                · have := sg_iff.mp y.2.2.2; omega
              · exact fun y => .inr (.inr (.inr ⟨ca, cb, dc, sg_iff.mpr (.inl ⟨ht, y⟩)⟩))
            rw [htie, ti, e2]
            rcases Int.lt_trichotomy (tw a b d) 0 with y | y | y
            · have := dm.2 y; exact ⟨by omega, fun _ => this, fun _ => y⟩
            · exact absurd y fc
            · have := dm.1 y; exact ⟨by omega, fun _ => by omega, fun _ => by omega⟩
        · -- b before a
          have ba' := ab
          have db := lx_tr ab da
          rcases lx_or nbc with bc' | bc'
          · -- b
            have dm := dom (t := tw a d c) hC (wp b) (w0 d) (w0 a) (w0 c) (wl db hd) (wl ba' ha) (wl bc' hc) (ng bT) ba bc
            have e2 : pw h a b c d = w b * tw a d c + (w d * -tw a b c + w a * tw d b c + w c * tw a b d) := by rw [e]; unfold pw; rw [Int.mul_neg]; omega
            have ti : tie a b c d ↔ tw a d c < 0 := by
              unfold tie
              constructor
              · rintro (y | y | y | y)
                · exact absurd y.2.1 (lx_as db)
                · exact absurd y.1 (lx_as ba')
                · have := sg_iff.mp y.2.2.2; omega
                · exact absurd y.2.1 (lx_as bc')
              · exact fun y => .inr (.inr (.inl ⟨ba', bc', db, sg_iff.mpr (.inr ⟨by omega, by omega⟩)⟩))
            rw [htie, ti, e2]
            rcases Int.lt_trichotomy (tw a d c) 0 with y | y | y
            · have := dm.2 y; exact ⟨by omega, fun _ => this, fun _ => y⟩
            · exact absurd y fb
            · have := dm.1 y; exact ⟨by omega, fun _ => by omega, fun _ => by omega⟩
          · -- c
            have cb := bc'
            have ca := lx_tr cb ab
            have dc := lx_tr cb db
            have dm := dom (t := tw a b d) hC (wp c) (w0 d) (w0 a) (w0 b) (wl dc hd) (wl ca ha) (wl cb hB) (ng bT) ba bb
            have e2 : pw h a b c d = w c * tw a b d + (w d * -tw a b c + w a * tw d b c + w b * tw a d c) := by rw [e]; unfold pw; rw [Int.mul_neg]; omega
            have ti : tie a b c d ↔ tw a b d < 0 := by
              unfold tie
              constructor
              · rintro (y | y | y | y)
                · exact absurd y.2.2 (lx_as dc)
                · exact absurd y.2.1 (lx_as ca)
                · exact absurd y.2.1 (lx_as cb)
                · have := sg_iff.mp y.2.2.2; omega
              · exact fun y => .inr (.inr (.inr ⟨ca, cb, dc, sg_iff.mpr (.inl ⟨ht, y⟩)⟩))
            rw [htie, ti, e2]
            rcases Int.lt_trichotomy (tw a b d) 0 with y | y | y
            · have := dm.2 y; exact ⟨by omega, fun _ => this, fun _ => y⟩
            · exact absurd y fc
            · have := dm.1 y; exact ⟨by omega, fun _ => by omega, fun _ => by omega⟩
    · have p : N * -bo a b c d ≤ -N := by
        calc N * -bo a b c d ≤ N * -1 := Int.mul_le_mul_of_nonneg_left (by omega) (by omega)
          _ = -N := by omega
      have neg : pw h a b c d < 0 := by rw [e]; have : N = 4 * (C * W) + 1 := rfl; omega
      refine ⟨by omega, fun _ => neg, fun _ => hch.mpr (.inl (Int.mul_pos ht z))⟩
  refine ⟨h, fun a ha b hB c hc d hd ht na nb nc => (key a ha b hB c hc d hd ht na nb nc).1, fun a ha b hB c hc d hd ht => ?_⟩
  by_cases e : d = a ∨ d = b ∨ d = c
  · rw [sp_self (by omega) e, pw_self e]; simp
  · exact (key a ha b hB c hc d hd ht (fun z => e (.inl z)) (fun z => e (.inr (.inl z))) (fun z => e (.inr (.inr z)))).2
end GM

/-! Over one base: who spoils is an order. -/
namespace GM
theorem pwV_base (ha hb hr hs ax ay bx by_ rx ry sx sy : Int) : hs * twV ax ay bx by_ rx ry - (ha * twV sx sy bx by_ rx ry + hb * twV ax ay sx sy rx ry + hr * twV ax ay bx by_ sx sy) = -(hr * twV ax ay bx by_ sx sy - (ha * twV rx ry bx by_ sx sy + hb * twV ax ay rx ry sx sy + hs * twV ax ay bx by_ rx ry)) := by unfold twV; grind
theorem pw_sw' (h : Pt → Int) (a b r s : Pt) : pw h a b s r = -pw h a b r s := by
  have := pwV_base (h a) (h b) (h s) (h r) a.1 a.2 b.1 b.2 s.1 s.2 r.1 r.2
  exact this
theorem pw_rot (h : Pt → Int) (a b c d : Pt) : pw h b c a d = pw h a b c d := by
  unfold pw
  rw [tw_rot, show tw d c a = tw a d c from tw_rot a d c, show tw b d a = tw a b d from tw_rot a b d, show tw b c d = tw d b c from tw_rot d b c]
  omega
theorem pw_sw (h : Pt → Int) (a b c d : Pt) : pw h b a c d = -pw h a b c d := by
  unfold pw
  rw [show tw b a c = -tw a b c from tw_sw a b c, show tw d a c = -tw a d c from tw_sw a d c, show tw b d c = -tw d b c from tw_sw d b c, show tw b a d = -tw a b d from tw_sw a b d, Int.mul_neg, Int.mul_neg, Int.mul_neg, Int.mul_neg]
  omega
theorem plu (ha hb hr hs ht ax ay bx by_ rx ry sx sy tx ty : Int) :
    (ht * twV ax ay bx by_ rx ry - (ha * twV tx ty bx by_ rx ry + hb * twV ax ay tx ty rx ry + hr * twV ax ay bx by_ tx ty)) * twV ax ay bx by_ sx sy =
    (hs * twV ax ay bx by_ rx ry - (ha * twV sx sy bx by_ rx ry + hb * twV ax ay sx sy rx ry + hr * twV ax ay bx by_ sx sy)) * twV ax ay bx by_ tx ty +
    (ht * twV ax ay bx by_ sx sy - (ha * twV tx ty bx by_ sx sy + hb * twV ax ay tx ty sx sy + hs * twV ax ay bx by_ tx ty)) * twV ax ay bx by_ rx ry := by unfold twV; grind
/-- three over one base -/
theorem pw_plu (h : Pt → Int) (a b r s t : Pt) : pw h a b r t * tw a b s = pw h a b r s * tw a b t + pw h a b s t * tw a b r :=
  plu (h a) (h b) (h r) (h s) (h t) a.1 a.2 b.1 b.2 r.1 r.2 s.1 s.2 t.1 t.2
theorem sp_tr {p q r s t : Pt} (hr : 0 < tw p q r) (hs : 0 < tw p q s) (ht : 0 < tw p q t) (h1 : sp p q r s = true) (h2 : sp p q s t = true) : sp p q r t = true := by
  obtain ⟨h, H⟩ := heights [p, q, r, s, t]
  have e1 := (H.sp p (by simp) q (by simp) r (by simp) s (by simp) hr).mp h1
  have e2 := (H.sp p (by simp) q (by simp) s (by simp) t (by simp) hs).mp h2
  refine (H.sp p (by simp) q (by simp) r (by simp) t (by simp) hr).mpr ?_
  have e := pw_plu h p q r s t
  have a1 := Int.mul_neg_of_neg_of_pos e1 ht
  have a2 := Int.mul_neg_of_neg_of_pos e2 hr
  rcases Int.lt_trichotomy (pw h p q r t) 0 with z | z | z
  · exact z
  · rw [z, Int.zero_mul] at e; omega
  · have := Int.mul_pos z hs; omega
theorem sp_irr {p q r : Pt} (hr : 0 < tw p q r) : sp p q r r = false := sp_self (by omega) (.inr (.inr rfl))
/-- of two over a base just one spoils it with the other -/
theorem sp_xor {p q r s : Pt} (hr : 0 < tw p q r) (hs : 0 < tw p q s) (hne : r ≠ s) : sp p q s r = !sp p q r s := by
  obtain ⟨h, H⟩ := heights [p, q, r, s]
  obtain ⟨_, n1, n2⟩ := ne_of_tw (show tw p q s ≠ 0 by omega)
  have nz := H.nz p (by simp) q (by simp) r (by simp) s (by simp) hr n1.symm n2.symm hne.symm
  have e1 := H.sp p (by simp) q (by simp) r (by simp) s (by simp) hr
  have e2 := H.sp p (by simp) q (by simp) s (by simp) r (by simp) hs
  rw [pw_sw'] at e2
  cases h1 : sp p q r s with
  | true => 
    have := e1.mp h1
    cases h2 : sp p q s r with
    | false => rfl
    | true => have := e2.mp h2; omega
  | false =>
    have : ¬ pw h p q r s < 0 := fun z => by rw [e1.mpr z] at h1; cases h1
    exact e2.mpr (by omega)
/-- kept: whichever spoils the kept one -/
def best (p q : Pt) (b : Pt) (xs : List Pt) : Pt := xs.foldl (fun b x => if sp p q b x = true then x else b) b
theorem best_mem (p q : Pt) : ∀ (xs : List Pt) (b : Pt), best p q b xs = b ∨ best p q b xs ∈ xs
  | [], b => .inl rfl
  | x :: xs, b => by
    show best p q (if sp p q b x = true then x else b) xs = b ∨ best p q (if sp p q b x = true then x else b) xs ∈ x :: xs
    split
    · rcases best_mem p q xs x with h | h
      · exact .inr (by rw [h]; exact List.mem_cons_self)
      · exact .inr (List.mem_cons_of_mem _ h)
    · rcases best_mem p q xs b with h | h
      · exact .inl h
      · exact .inr (List.mem_cons_of_mem _ h)
theorem best_ok {p q : Pt} : ∀ (xs : List Pt) (b : Pt), 0 < tw p q b → (∀ x ∈ xs, 0 < tw p q x) → (∀ x ∈ b :: xs, sp p q (best p q b xs) x = false)
  | [], b, hb, _ => fun x hx => by
    rw [List.mem_singleton.mp hx]
    exact sp_irr hb
  | y :: ys, b, hb, hx => fun x hm => by
    have hy := hx y List.mem_cons_self
    have hys : ∀ x ∈ ys, 0 < tw p q x := fun x h => hx x (List.mem_cons_of_mem _ h)
    show sp p q (best p q (if sp p q b y = true then y else b) ys) x = false
    by_cases c : sp p q b y = true
    · rw [if_pos c]
      have ih := best_ok ys y hy hys
      have hbt : 0 < tw p q (best p q y ys) := by
        rcases best_mem p q ys y with h | h
        · rw [h]; exact hy
        · exact hys _ h
      rcases List.mem_cons.mp hm with rfl | hm
      · -- the old one: spoilt by y, which is not better
        cases e : sp p q (best p q y ys) x with
        | false => rfl
        | true =>
          have := sp_tr hbt hb hy e c
          rw [ih y List.mem_cons_self] at this; cases this
      · exact ih x hm
    · rw [if_neg c]
      have ih := best_ok ys b hb hys
      have hbt : 0 < tw p q (best p q b ys) := by
        rcases best_mem p q ys b with h | h
        · rw [h]; exact hb
        · exact hys _ h
      rcases List.mem_cons.mp hm with rfl | hm
      · exact ih x List.mem_cons_self
      · rcases List.mem_cons.mp hm with rfl | hm
        · by_cases eb : x = b
          · rw [eb]; exact ih b List.mem_cons_self
          · have x1 := sp_xor hb hy (fun z => eb z.symm)
            have c' : sp p q b x = false := by simpa using c
            rw [c'] at x1
            cases e : sp p q (best p q b ys) x with
            | false => rfl
            | true =>
              have := sp_tr hbt hy hb e x1
              rw [ih b List.mem_cons_self] at this; cases this
        · exact ih x (List.mem_cons_of_mem _ hm)
end GM

/-! A small language of plain data over the hand layer: values as trees, lists in a store, and how they stand in the abstract heap. -/
namespace NL
open PySem PySem.Spec PyProof.Rows L2

/-- a value: atoms and tuples as trees; a list by its place in the store -/
inductive D where
  | non | bl (b : Bool) | int (i : Int) | str (x : Str) | tup (xs : List D) | ref (l : Nat)
  deriving Inhabited
/-- what stands at a place of the store: a list of ours, a list that is only read -/
inductive Ob where
  | lst (xs : List D) | frz (xs : List D)
def Ob.mut : Ob → Bool
  | .frz _ => false
  | _ => true
abbrev Store := List Ob
/-- an answer: a value, an exception (its class, the place of its dict), or nothing is said -/
inductive R (α : Type) where
  | ok (a : α) (S : Store) | exc (c : Str) (d : Option Nat) (S : Store) | stuck
def R.bind {α β : Type} (r : R α) (f : α → Store → R β) : R β := match r with
  | .ok a S => f a S
  | .exc c d S => .exc c d S
  | .stuck => .stuck
def M (α : Type) := Store → R α
def M.pure {α : Type} (a : α) : M α := fun S => .ok a S
def M.bind {α β : Type} (m : M α) (f : α → M β) : M β := fun S => (m S).bind f
def die {α : Type} : M α := fun _ => .stuck
instance : Monad M where
  pure := M.pure
  bind := M.bind
theorem bind_eq {α β : Type} (m : M α) (f : α → M β) (S : Store) : (m >>= f) S = (m S).bind f := rfl
theorem pure_eq {α : Type} (a : α) (S : Store) : (pure a : M α) S = .ok a S := rfl
theorem bind_as {α β γ : Type} (m : M α) (f : α → M β) (g : β → M γ) : m >>= f >>= g = m >>= fun x => f x >>= g := by
  funext S
  show (R.bind (R.bind (m S) f) g) = R.bind (m S) fun x => M.bind (f x) g
  cases m S <;> rfl
theorem pure_bi {α β : Type} (a : α) (f : α → M β) : (pure a : M α) >>= f = f a := rfl
theorem die_bi {α β : Type} (f : α → M β) : (die : M α) >>= f = die := rfl
theorem ite_bi {α β : Type} (c : Prop) [Decidable c] (m n : M α) (f : α → M β) : (if c then m else n) >>= f = if c then m >>= f else n >>= f := by split <;> rfl
theorem die_eq {α : Type} (S : Store) : (die : M α) S = .stuck := rfl

/-! ### how values stand in the heap -/
mutual
inductive Rep (m : List Addr) (H : Hp) : D → V → Prop
  | non : Rep m H .non .non
  | bl (b : Bool) : Rep m H (.bl b) (.bl b)
  | int (i : Int) : Rep m H (.int i) (.int i)
  | str (x : Str) : Rep m H (.str x) (.str x)
  | tup {a : Addr} {xs : List D} {vs : List V} : H a = some (.tup vs) → Reps m H xs vs → Rep m H (.tup xs) (.ref a)
  | ref {l : Nat} {a : Addr} : m[l]? = some a → Rep m H (.ref l) (.ref a)
inductive Reps (m : List Addr) (H : Hp) : List D → List V → Prop
  | nil : Reps m H [] []
  | cons {d : D} {v : V} {ds : List D} {vs : List V} : Rep m H d v → Reps m H ds vs → Reps m H (d :: ds) (v :: vs)
end
/-- later: places stay, tuples stay -/
structure Gr (m m' : List Addr) (H H' : Hp) : Prop where
  pre : ∀ (l : Nat) (a : Addr), m[l]? = some a → m'[l]? = some a
  tup : ∀ (a : Addr) (xs : List V), H a = some (.tup xs) → H' a = some (.tup xs)
theorem Gr.refl (m : List Addr) (H : Hp) : Gr m m H H := ⟨fun _ _ h => h, fun _ _ h => h⟩
theorem Gr.trans {m m1 m2 : List Addr} {H H1 H2 : Hp} (a : Gr m m1 H H1) (b : Gr m1 m2 H1 H2) : Gr m m2 H H2 :=
  ⟨fun l x h => b.pre l x (a.pre l x h), fun x xs h => b.tup x xs (a.tup x xs h)⟩
mutual
theorem Rep.mono {m m' : List Addr} {H H' : Hp} (g : Gr m m' H H') : ∀ (d : D) (v : V), Rep m H d v → Rep m' H' d v
  | .non, _, h => by cases h; exact .non
  | .bl _, _, h => by cases h; exact .bl _
  | .int _, _, h => by cases h; exact .int _
  | .str _, _, h => by cases h; exact .str _
  | .tup xs, _, h => by
    cases h with
    | tup e r => exact .tup (g.tup _ _ e) (Reps.mono g xs _ r)
  | .ref _, _, h => by
    cases h with
    | ref e => exact .ref (g.pre _ _ e)
theorem Reps.mono {m m' : List Addr} {H H' : Hp} (g : Gr m m' H H') : ∀ (ds : List D) (vs : List V), Reps m H ds vs → Reps m' H' ds vs
  | [], _, h => by cases h; exact .nil
  | d :: ds, _, h => by
    cases h with
    | cons a b => exact .cons (Rep.mono g d _ a) (Reps.mono g ds _ b)
end
section
variable {m : List Addr} {H : Hp}
theorem Reps.length : ∀ {ds : List D} {vs : List V}, Reps m H ds vs → ds.length = vs.length
  | _, _, .nil => rfl
  | _, _, .cons _ t => by rw [List.length_cons, List.length_cons, Reps.length t]
theorem Reps.get : ∀ {ds : List D} {vs : List V} {i : Nat} {d : D}, Reps m H ds vs → ds[i]? = some d → ∃ v, vs[i]? = some v ∧ Rep m H d v
  | _, _, i, d, .nil, e => by simp at e
  | _, _, 0, d, .cons r _, e => by simp at e; subst e; exact ⟨_, rfl, r⟩
  | _, _, i + 1, d, .cons _ t, e => by
    obtain ⟨v, h1, h2⟩ := Reps.get (i := i) t (by simpa using e)
    exact ⟨v, by simpa using h1, h2⟩
theorem Reps.append : ∀ {ds es : List D} {vs us : List V}, Reps m H ds vs → Reps m H es us → Reps m H (ds ++ es) (vs ++ us)
  | _, _, _, _, .nil, s => s
  | _, _, _, _, .cons r t, s => .cons r (Reps.append t s)
theorem Reps.take : ∀ {ds : List D} {vs : List V} (n : Nat), Reps m H ds vs → Reps m H (ds.take n) (vs.take n)
  | _, _, 0, _ => by rw [List.take_zero, List.take_zero]; exact .nil
  | _, _, _ + 1, .nil => by rw [List.take_nil, List.take_nil]; exact .nil
  | _, _, n + 1, .cons r t => by rw [List.take_succ_cons, List.take_succ_cons]; exact .cons r (Reps.take n t)
theorem Reps.drop : ∀ {ds : List D} {vs : List V} (n : Nat), Reps m H ds vs → Reps m H (ds.drop n) (vs.drop n)
  | _, _, 0, r => r
  | _, _, _ + 1, .nil => by rw [List.drop_nil, List.drop_nil]; exact .nil
  | _, _, n + 1, .cons _ t => by rw [List.drop_succ_cons, List.drop_succ_cons]; exact Reps.drop n t
theorem Reps.reverse : ∀ {ds : List D} {vs : List V}, Reps m H ds vs → Reps m H ds.reverse vs.reverse
  | _, _, .nil => .nil
  | _, _, .cons r t => by rw [List.reverse_cons, List.reverse_cons]; exact Reps.append (Reps.reverse t) (.cons r .nil)
theorem Reps.set {d : D} {v : V} (r : Rep m H d v) : ∀ {ds : List D} {vs : List V} (i : Nat), Reps m H ds vs → Reps m H (ds.set i d) (vs.set i v)
  | _, _, _, .nil => .nil
  | _, _, 0, .cons _ t => .cons r t
  | _, _, i + 1, .cons q t => .cons q (Reps.set r i t)
theorem Reps.ints : ∀ (ns : List Int), Reps m H (ns.map D.int) (ns.map V.int)
  | [] => .nil
  | n :: r => .cons (.int n) (Reps.ints r)
end

/-! ### the store -/
/-- a list that is only read: known to the object, or an object of the module -/
def SqF (K : PySem.W.Frag) (H : Hp) (a : Addr) (vs : List V) : Prop :=
  (∃ o, H a = some (.frz o (.lst vs))) ∨
    ∃ (o : Obj) (its : Array Value) (n : Nat), K.lookup a = some o ∧ o.cls = .type "list" ∧ o.dict = none ∧ o.data = .seq its n ∧ its.size ≤ sizeLine ∧ Vals vs its.toList
def ObR (K : PySem.W.Frag) (m : List Addr) (H : Hp) (a : Addr) : Ob → Prop
  | .lst xs => ∃ vs, H a = some (.lst vs) ∧ Reps m H xs vs
  | .frz xs => ∃ vs, SqF K H a vs ∧ Reps m H xs vs
structure SR (K : PySem.W.Frag) (m : List Addr) (S : Store) (H : Hp) : Prop where
  len : m.length = S.length
  ob : ∀ (l : Nat) (o : Ob) (a : Addr), S[l]? = some o → m[l]? = some a → ObR K m H a o
  inj : ∀ (l l' : Nat) (a : Addr) (o o' : Ob), m[l]? = some a → m[l']? = some a → S[l]? = some o → S[l']? = some o' → o.mut = true → o'.mut = true → l = l'
section
variable {K : PySem.W.Frag} {m m' : List Addr} {S : Store} {H H' : Hp} {a : Addr}
theorem SqF.sq {vs : List V} (h : SqF K H a vs) : SqL K H a vs := by
  rcases h with ⟨o, h⟩ | h
  · exact .inl (.inr ⟨o, h⟩)
  · exact .inr h
/-- an address of the store at l -/
theorem SR.at_ (r : SR K m S H) {l : Nat} {o : Ob} (h : S[l]? = some o) : ∃ a, m[l]? = some a ∧ ObR K m H a o := by
  have hl : l < m.length := by rw [r.len]; exact (List.getElem?_eq_some_iff.mp h).1
  exact ⟨m[l], List.getElem?_eq_getElem hl, r.ob l o _ h (List.getElem?_eq_getElem hl)⟩
/-- what a list holds, read -/
def items : Ob → List D
  | .lst xs => xs
  | .frz xs => xs
theorem ObR.sq {o : Ob} (h : ObR K m H a o) : ∃ vs, SqL K H a vs ∧ Reps m H (items o) vs := by
  cases o with
  | lst xs => obtain ⟨vs, e, r⟩ := h; exact ⟨vs, SqL.of e, r⟩
  | frz xs => obtain ⟨vs, e, r⟩ := h; exact ⟨vs, e.sq, r⟩
/-- a fresh address is none of the store's own -/
theorem SR.fresh (r : SR K m S H) {p : Addr} (hp : H p = none) {l : Nat} {o : Ob} (h : S[l]? = some o) (hm : o.mut = true) : m[l]? ≠ some p := fun e => by
  have q := r.ob l o p h e
  cases o with
  | lst xs => obtain ⟨vs, e', _⟩ := q; rw [hp] at e'; cases e'
  | frz xs => exact absurd hm Bool.false_ne_true
theorem Gr.upd_new {o : HO} {p : Addr} (hp : H p = none) : Gr m m H (upd H p o) := ⟨fun _ _ h => h, fun a xs h => by rw [upd_ne (ne_of_none h hp)]; exact h⟩
theorem Gr.push {p : Addr} : Gr m (m ++ [p]) H H := ⟨fun l a h => by rw [List.getElem?_append_left (List.getElem?_eq_some_iff.mp h).1]; exact h, fun _ _ h => h⟩
theorem Gr.push_new {o : HO} {p : Addr} (hp : H p = none) : Gr m (m ++ [p]) H (upd H p o) := Gr.trans (Gr.upd_new hp) Gr.push
theorem ObR.keep {o : Ob} (g : Gr m m' H H') (h : ObR K m H a o) (k : ∀ u, H a = some u → H' a = some u) : ObR K m' H' a o := by
  cases o with
  | lst xs => obtain ⟨vs, e, r⟩ := h; exact ⟨vs, k _ e, Reps.mono g _ _ r⟩
  | frz xs =>
    obtain ⟨vs, e, r⟩ := h
    refine ⟨vs, ?_, Reps.mono g _ _ r⟩
    rcases e with ⟨o, e⟩ | e
    · exact .inl ⟨o, k _ e⟩
    · exact .inr e
/-- nothing of the store is touched by a new thing that is not in it (a tuple) -/
theorem SR.new (r : SR K m S H) {p : Addr} {o : HO} (hp : H p = none) : SR K m S (upd H p o) :=
  ⟨r.len, fun l ob a h e => (r.ob l ob a h e).keep (Gr.upd_new hp) fun u q => by rw [upd_ne (ne_of_none q hp)]; exact q, r.inj⟩
/-- a new list -/
theorem SR.alloc (r : SR K m S H) {p : Addr} {xs : List D} {vs : List V} (hp : H p = none) (hx : Reps m H xs vs) : SR K (m ++ [p]) (S ++ [.lst xs]) (upd H p (.lst vs)) := by
  have g : Gr m (m ++ [p]) H (upd H p (.lst vs)) := Gr.push_new hp
  have hn : (m ++ [p])[S.length]? = some p := by rw [← r.len]; simp
  refine ⟨by simp [r.len], fun l ob a h e => ?_, fun l l' a o o' h1 h2 h3 h4 hm hm' => ?_⟩
  · by_cases hl : l < S.length
    · rw [List.getElem?_append_left hl] at h
      rw [List.getElem?_append_left (by rw [r.len]; exact hl)] at e
      exact (r.ob l ob a h e).keep g fun u q => by rw [upd_ne (ne_of_none q hp)]; exact q
    · have e1 : l = S.length := by
        have := (List.getElem?_eq_some_iff.mp h).1
        simp at this; omega
      subst e1
      rw [hn] at e
      simp at h
      cases e
      subst h
      exact ⟨vs, upd_same, Reps.mono g _ _ hx⟩
  · have key : ∀ {l : Nat} {o : Ob}, (S ++ [Ob.lst xs])[l]? = some o → l < S.length ∧ S[l]? = some o ∨ l = S.length := fun {l o} h => by
      by_cases hl : l < S.length
      · rw [List.getElem?_append_left hl] at h
        exact .inl ⟨hl, h⟩
      · have := (List.getElem?_eq_some_iff.mp h).1
        simp at this
        exact .inr (by omega)
    rcases key h3 with ⟨k1, k2⟩ | k1
    · rw [List.getElem?_append_left (by rw [r.len]; exact k1)] at h1
      rcases key h4 with ⟨k3, k4⟩ | k3
      · rw [List.getElem?_append_left (by rw [r.len]; exact k3)] at h2
        exact r.inj l l' a o o' h1 h2 k2 k4 hm hm'
      · subst k3
        rw [hn] at h2; cases h2
        exact absurd h1 (r.fresh hp k2 hm)
    · subst k1
      rw [hn] at h1; cases h1
      rcases key h4 with ⟨k3, k4⟩ | k3
      · rw [List.getElem?_append_left (by rw [r.len]; exact k3)] at h2
        exact absurd h2 (r.fresh hp k4 hm')
      · exact k3.symm
/-- a list of ours is written -/
theorem Gr.write {p : Addr} {vs vs' : List V} (hp : H p = some (.lst vs)) : Gr m m H (upd H p (.lst vs')) :=
  ⟨fun _ _ h => h, fun a xs h => by rw [upd_ne (ne_of h hp (by intro z; cases z))]; exact h⟩
theorem SR.write (r : SR K m S H) {l : Nat} {p : Addr} {xs xs' : List D} {vs vs' : List V} (hl : S[l]? = some (.lst xs)) (hm : m[l]? = some p) (hp : H p = some (.lst vs)) (hx : Reps m H xs' vs') :
    SR K m (S.set l (.lst xs')) (upd H p (.lst vs')) := by
  have g : Gr m m H (upd H p (.lst vs')) := Gr.write hp
  have hlt : l < S.length := (List.getElem?_eq_some_iff.mp hl).1
  refine ⟨by rw [List.length_set]; exact r.len, fun k ob a h e => ?_, fun k k' a o o' h1 h2 h3 h4 hm1 hm2 => ?_⟩
  · by_cases hk : l = k
    · subst hk
      rw [List.getElem?_set_self hlt] at h
      cases h
      rw [hm] at e; cases e
      exact ⟨vs', upd_same, Reps.mono g _ _ hx⟩
    · rw [List.getElem?_set_ne hk] at h
      have q := r.ob k ob a h e
      cases ob with
      | lst ys =>
        refine q.keep g fun u hu => ?_
        rw [upd_ne (fun z => hk (r.inj l k a _ _ (by rw [z]; exact hm) e hl h rfl rfl))]; exact hu
      | frz ys =>
        obtain ⟨ws, hw, rw'⟩ := q
        refine ⟨ws, ?_, Reps.mono g _ _ rw'⟩
        rcases hw with ⟨o, e'⟩ | e'
        · refine .inl ⟨o, ?_⟩
          rw [upd_ne (ne_of e' hp (by intro z; cases z))]; exact e'
        · exact .inr e'
  · have key : ∀ {j : Nat} {o : Ob}, (S.set l (.lst xs'))[j]? = some o → o.mut = true → ∃ o1, S[j]? = some o1 ∧ o1.mut = true := fun {j o} h hmu => by
      by_cases hj : l = j
      · subst hj; exact ⟨_, hl, rfl⟩
      · rw [List.getElem?_set_ne hj] at h
        exact ⟨o, h, hmu⟩
    obtain ⟨o1, q1, q2⟩ := key h3 hm1
    obtain ⟨o2, q3, q4⟩ := key h4 hm2
    exact r.inj k k' a o1 o2 h1 h2 q1 q3 q2 q4
end
end NL

/-! What an operation answers, and that the machine answers so. -/
namespace NL
open PySem PySem.Spec PyProof.Rows L2
/-! ### what is wanted behind -/
def post {α : Type} (K : PySem.W.Frag) (E : Str → Option Nat → List Addr → Store → Hp → Prop) (m : List Addr) (H : Hp) (r : R α) (F : α → List Addr → Store → Hp → Prop) : Prop :=
  match r with
  | .ok a S => ∀ m' H', Gr m m' H H' → SR K m' S H' → F a m' S H'
  | .exc c d S => ∀ m' H', Gr m m' H H' → SR K m' S H' → E c d m' S H'
  | .stuck => False
def E0x : Str → Option Nat → List Addr → Store → Hp → Prop := fun _ _ _ _ _ => False
section
variable {α β : Type} {K : PySem.W.Frag} {E E' : Str → Option Nat → List Addr → Store → Hp → Prop} {m : List Addr} {H : Hp} {r : R α} {F G : α → List Addr → Store → Hp → Prop}
theorem post_mono (h : post K E m H r F) (k : ∀ a m' S' H', Gr m m' H H' → SR K m' S' H' → F a m' S' H' → G a m' S' H') : post K E m H r G := by
  cases r with
  | ok a S => exact fun m' H' g s => k a m' S H' g s (h m' H' g s)
  | exc c d S => exact h
  | stuck => exact h
theorem post_monoE (h : post K E m H r F) (k : ∀ c d m' S' H', Gr m m' H H' → SR K m' S' H' → E c d m' S' H' → E' c d m' S' H') : post K E' m H r F := by
  cases r with
  | ok a S => exact h
  | exc c d S => exact fun m' H' g s => k c d m' S H' g s (h m' H' g s)
  | stuck => exact h
/-- from a later state on -/
theorem post_later {m1 : List Addr} {H1 : Hp} (g : Gr m m1 H H1) (h : post K E m H r F) : post K E m1 H1 r F := by
  cases r with
  | ok a S => exact fun m' H' g' s => h m' H' (g.trans g') s
  | exc c d S => exact fun m' H' g' s => h m' H' (g.trans g') s
  | stuck => exact h
theorem post_bind {f : α → Store → R β} {F : β → List Addr → Store → Hp → Prop} (h : post K E m H (r.bind f) F) : post K E m H r (fun a m1 S1 H1 => post K E m1 H1 (f a S1) F) := by
  cases r with
  | ok a S => exact fun m' H' g s => post_later g (show post K E m H (f a S) F from h)
  | exc c d S => exact h
  | stuck => exact h
theorem post_now {a : α} {S : Store} (s : SR K m S H) (h : post K E m H (.ok a S) F) : F a m S H := h m H (Gr.refl m H) s
theorem post_gr {a : α} {S : Store} {m' : List Addr} {H' : Hp} (h : post K E m H (.ok a S) F) (g : Gr m m' H H') (s : SR K m' S H') : F a m' S H' := h m' H' g s
end

/-! ### answers -/
def MulOk (i j : Int) : Prop := ∃ a b : Nat, i.natAbs < 2 ^ a ∧ j.natAbs < 2 ^ b ∧ a + b ≤ 130000000
theorem MulOk.ok {i j : Int} (h : MulOk i j) : IntMulOk i j := by
  obtain ⟨a, b, h1, h2, h3⟩ := h
  have bd : ∀ (x : Int) (n : Nat), x.natAbs < 2 ^ n → Builtin.Int.intBits x ≤ n + 1 := fun x n hx => by
    unfold Builtin.Int.intBits
    by_cases hn : n = 0
    · subst hn
      have e : x.natAbs = 0 := by simpa using hx
      split <;> simp_all
    · have l := PySem.Flt.log2_lt_of (Nat.pos_of_ne_zero hn) hx
      split <;> omega
  have e1 := bd i a h1
  have e2 := bd j b h2
  have e : bitsLine = 134217728 := by decide
  unfold IntMulOk
  intro z
  rw [Bool.and_eq_true] at z
  have z2 := z.2
  unfold Builtin.Int.intTooBig at z2
  have z3 := of_decide_eq_true z2
  rw [e] at z3
  omega
inductive Bop where | add | sub | mul | fdiv | mod | pow
inductive Cop where | lt | le | gt | ge | eq | ne | isIn | notIn | is_ | isNot
  deriving DecidableEq
def alloc (o : Ob) : M D := fun S => .ok (.ref S.length) (S ++ [o])
/-- the items of a list -/
def getL (l : Nat) : M (List D) := fun S => match S[l]? with
  | some o => .ok (items o) S
  | none => .stuck
/-- .. of a list of ours -/
def getM (l : Nat) : M (List D) := fun S => match S[l]? with
  | some (.lst xs) => .ok xs S
  | _ => .stuck
open Classical in
noncomputable def binD : Bop → D → D → M D
  | .add, .int i, .int j => pure (.int (i + j))
  | .add, .ref l, .ref k => getM l >>= fun xs => getM k >>= fun ys => if xs.length + ys.length ≤ sizeLine then alloc (.lst (xs ++ ys)) else die
  | .sub, .int i, .int j => pure (.int (i - j))
  | .mul, .int i, .int j => if MulOk i j then pure (.int (i * j)) else die
  | .mul, .ref l, .int n => getM l >>= fun xs => if -(2 ^ 63) ≤ n ∧ n < 2 ^ 63 ∧ xs.length * n.toNat ≤ sizeLine then alloc (.lst (List.replicate n.toNat xs).flatten) else die
  | .fdiv, .int i, .int j => if j ≠ 0 ∧ j.natAbs.log2 < 9000 then pure (.int (i.fdiv j)) else die
  | .mod, .int i, .int j => if j ≠ 0 then pure (.int (i.fmod j)) else die
  | .pow, .int i, .int j => if 0 ≤ j ∧ (Builtin.Int.intBits i : Int) * j ≤ 2 ^ 27 then pure (.int (i ^ j.toNat)) else die
  | _, _, _ => die
def negD : D → M D
  | .int i => pure (.int (-i))
  | _ => die
def notD : D → M D
  | .bl b => pure (.bl (!b))
  | _ => die

def mapO {α β : Type} (f : α → Option β) : List α → Option (List β)
  | [] => some []
  | x :: xs => match f x, mapO f xs with
    | some y, some ys => some (y :: ys)
    | _, _ => none
/-- a value as plain data -/
def pd (S : Store) : Nat → D → Option PyData
  | _, .non => some .none
  | _, .bl b => some (.bool b)
  | _, .int i => some (.int i)
  | _, .str x => if PyData.strOk x = true then some (.str x) else none
  | 0, .tup _ => none
  | 0, .ref _ => none
  | k + 1, .tup xs => (mapO (pd S k) xs).map .tuple
  | k + 1, .ref l => match S[l]? with
    | some o => (mapO (pd S k) (items o)).map .list
    | none => none
def eqD (S : Store) (x y : D) : Option Bool := match pd S 12 x, pd S 12 y with
  | some p, some q => some (PyData.eqv p q)
  | _, _ => none
def ord4 : Cop → Int → Int → Bool
  | .lt, i, j => decide (i < j)
  | .le, i, j => decide (i ≤ j)
  | .gt, i, j => decide (j < i)
  | .ge, i, j => decide (j ≤ i)
  | _, _, _ => false
/-- from the first place at which two lists differ -/
def lexO (o : Cop) (f : D → D → Option Bool) : List D → List D → Option Bool
  | [], [] => some (ord4 o 0 0)
  | [], _ :: _ => some (ord4 o 0 1)
  | _ :: _, [] => some (ord4 o 1 0)
  | x :: xs, y :: ys => match eqD [] x y with
    | some true => lexO o f xs ys
    | some false => f x y
    | none => none
/-- the order of two values -/
def ordD (o : Cop) : Nat → D → D → Option Bool
  | _, .int i, .int j => some (ord4 o i j)
  | k + 1, .tup xs, .tup ys => if ((xs.zip ys).all fun p => match eqD [] p.1 p.2 with
      | some true => true
      | some false => (ordD o k p.1 p.2).isSome
      | none => false) = true then lexO o (ordD o k) xs ys else none
  | _, _, _ => none
def isD : D → D → Option Bool
  | x, .non => some (match x with | .non => true | _ => false)
  | x, .bl b => some (match x with | .bl c => b == c | _ => false)
  | _, _ => none
def inD (S : Store) (x y : D) : Option Bool :=
  match y with
  | .tup ys => (match pd S 12 x, mapO (pd S 12) ys with
    | some p, some qs => some (qs.any fun q => PyData.eqv q p)
    | _, _ => none)
  | .ref l => (match S[l]? with
    | some o => (match pd S 12 x, mapO (pd S 12) (items o) with
      | some p, some qs => some (qs.any fun q => PyData.eqv q p)
      | _, _ => none)
    | none => none)
  | _ => none
def ofB (b : Option Bool) : M D := match b with
  | some b => pure (.bl b)
  | none => die
def cmpD : Cop → D → D → M D
  | .eq, x, y => fun S => ofB (eqD S x y) S
  | .ne, x, y => fun S => ofB ((eqD S x y).map (!·)) S
  | .isIn, x, y => fun S => ofB (inD S x y) S
  | .notIn, x, y => fun S => ofB ((inD S x y).map (!·)) S
  | .is_, x, y => ofB (isD x y)
  | .isNot, x, y => ofB ((isD x y).map (!·))
  | o, x, y => ofB (ordD o 12 x y)
/-- a[i] -/
def ixD : D → D → M D
  | .tup xs, .int i => match atI xs i with | some d => pure d | none => die
  | .ref l, .int i => getL l >>= fun xs => match atI xs i with | some d => pure d | none => die
  | _, _ => die
/-- the truth of a value -/
def truD : D → M Bool
  | .bl b => pure b
  | _ => die
end NL

namespace NL
open PySem PySem.Spec PyProof.Rows L2
/-! ### the machine answers so: operators -/
def Bop.op : Bop → Operator
  | .add => .Add | .sub => .Sub | .mul => .Mult | .fdiv => .FloorDiv | .mod => .Mod | .pow => .Pow
def Cop.op : Cop → CmpOp
  | .lt => .Lt | .le => .LtE | .gt => .Gt | .ge => .GtE | .eq => .Eq | .ne => .NotEq | .isIn => .In | .notIn => .NotIn | .is_ => .Is | .isNot => .IsNot
/-- a reading of two values by what they are in the store -/
def rD (K : PySem.W.Frag) (g : D → D → M D) : R2 := fun v u H Q => ∃ Ex m S x y, SR K m S H ∧ Rep m H x v ∧ Rep m H y u ∧ post K Ex m H (g x y S) (fun d m' _ H' => ∀ w, Rep m' H' d w → Q w H')
theorem OpR.imp {X : Cx} {f : Value → Value → Sem Value} {r r' : R2} (h : OpR X f r) (k : ∀ x y H Q, r' x y H Q → r x y H Q) : OpR X f r' := fun pins s σ H x y v u Q I rx ry q => h pins s σ H x y v u Q I rx ry (k _ _ _ _ q)
theorem OpR.or {X : Cx} {f : Value → Value → Sem Value} {r r' : R2} (h : OpR X f r) (h' : OpR X f r') : OpR X f (fun x y H Q => r x y H Q ∨ r' x y H Q) := fun pins s σ H x y v u Q I rx ry q =>
  q.elim (h pins s σ H x y v u Q I rx ry) (h' pins s σ H x y v u Q I rx ry)
section
variable {K : PySem.W.Frag} {m : List Addr} {S : Store} {H : Hp} {Q : VK}
/-- behind a pure answer -/
theorem post_val {E : Str → Option Nat → List Addr → Store → Hp → Prop} {d : D} {w : V} (s : SR K m S H) (h : post K E m H (.ok d S) (fun d m' _ H' => ∀ w, Rep m' H' d w → Q w H')) (r : Rep m H d w) : Q w H := post_now s h w r
theorem post_alloc {E : Str → Option Nat → List Addr → Store → Hp → Prop} {xs : List D} {vs : List V} (s : SR K m S H) (h : post K E m H (alloc (.lst xs) S) (fun d m' _ H' => ∀ w, Rep m' H' d w → Q w H')) (r : Reps m H xs vs) : ∀ p, H p = none → Q (.ref p) (upd H p (.lst vs)) := fun p hp => by
  refine post_gr h (m' := m ++ [p]) (Gr.push_new hp) (s.alloc hp r) _ (.ref ?_)
  rw [← s.len]; simp
theorem getM_bind {α : Type} {E : Str → Option Nat → List Addr → Store → Hp → Prop} {l : Nat} {f : List D → M α} {F : α → List Addr → Store → Hp → Prop} (h : post K E m H ((getM l >>= f) S) F) : ∃ xs, S[l]? = some (.lst xs) ∧ post K E m H (f xs S) F := by
  rw [bind_eq] at h
  unfold getM at h
  cases e : S[l]? with
  | none => rw [e] at h; exact h.elim
  | some o =>
    rw [e] at h
    cases o with
    | lst xs => exact ⟨xs, rfl, h⟩
    | frz xs => exact h.elim
theorem getL_bind {α : Type} {E : Str → Option Nat → List Addr → Store → Hp → Prop} {l : Nat} {f : List D → M α} {F : α → List Addr → Store → Hp → Prop} (h : post K E m H ((getL l >>= f) S) F) : ∃ o, S[l]? = some o ∧ post K E m H (f (items o) S) F := by
  rw [bind_eq] at h
  unfold getL at h
  cases e : S[l]? with
  | none => rw [e] at h; exact h.elim
  | some o =>
    rw [e] at h
    exact ⟨o, rfl, h⟩
theorem post_ite {α : Type} {E : Str → Option Nat → List Addr → Store → Hp → Prop} {c : Prop} {_ : Decidable c} {f : M α} {F : α → List Addr → Store → Hp → Prop} (h : post K E m H ((if c then f else die) S) F) : c ∧ post K E m H (f S) F := by
  by_cases hc : c
  · rw [if_pos hc] at h; exact ⟨hc, h⟩
  · rw [if_neg hc] at h; exact h.elim
/-- the address of a list of ours -/
theorem SR.lst_at (s : SR K m S H) {l : Nat} {a : Addr} {xs : List D} (h : S[l]? = some (.lst xs)) (e : m[l]? = some a) : ∃ vs, H a = some (.lst vs) ∧ Reps m H xs vs := s.ob l _ a h e
theorem SR.sq_at (s : SR K m S H) {l : Nat} {a : Addr} {o : Ob} (h : S[l]? = some o) (e : m[l]? = some a) : ∃ vs, SqL K H a vs ∧ Reps m H (items o) vs := (s.ob l _ a h e).sq
end
section
variable {X : Cx}
theorem op_mulX' : OpR X (binaryOp .Mult) (rI MulOk fun i j => .int (i * j)) := opI fun _ _ _ _ _ _ _ hc q => mul_int q hc.ok
theorem op_fdivX : OpR X (binaryOp .FloorDiv) (rI (fun _ j => j ≠ 0 ∧ j.natAbs.log2 < 9000) fun i j => .int (i.fdiv j)) := opI fun _ _ _ _ _ _ _ hc q => floordiv_int hc.1 q (.inl (PyProof.noPylong_of_log2 hc.2))
theorem op_powX : OpR X (binaryOp .Pow) (rI (fun i j => 0 ≤ j ∧ (Builtin.Int.intBits i : Int) * j ≤ 2 ^ 27) fun i j => .int (i ^ j.toNat)) := opI fun _ _ _ _ _ _ _ hc q => PyProof.Rows.pow_int hc.1 hc.2 q
theorem op_binD : ∀ (o : Bop), OpR X (binaryOp o.op) (rD X.K (binD o))
  | .add => by
    refine OpR.imp (OpR.or op_add op_cat) ?_
    intro v u H Q h
    obtain ⟨Ex, m, S, x, y, s, rx, ry, h⟩ := h
    cases rx <;> cases ry <;> try exact (show False from h).elim
    · exact .inl ⟨_, _, rfl, rfl, post_val s h (.int _)⟩
    · rename_i ea _ _ eb
      obtain ⟨xs, e1, h⟩ := getM_bind h
      obtain ⟨ys, e2, h⟩ := getM_bind h
      obtain ⟨hc, h⟩ := post_ite h
      obtain ⟨vs, h1, r1⟩ := s.lst_at e1 ea
      obtain ⟨us, h2, r2⟩ := s.lst_at e2 eb
      exact .inr ⟨_, _, vs, us, rfl, rfl, h1, h2, by rw [← r1.length, ← r2.length]; exact hc, post_alloc s h (r1.append r2)⟩
  | .sub => by
    refine OpR.imp op_sub ?_
    intro v u H Q h
    obtain ⟨Ex, m, S, x, y, s, rx, ry, h⟩ := h
    cases rx <;> cases ry <;> try exact (show False from h).elim
    exact ⟨_, _, rfl, rfl, post_val s h (.int _)⟩
  | .mul => by
    refine OpR.imp (OpR.or op_mulX' op_rep) ?_
    intro v u H Q h
    obtain ⟨Ex, m, S, x, y, s, rx, ry, h⟩ := h
    cases rx <;> cases ry <;> try exact (show False from h).elim
    · obtain ⟨hc, h⟩ := post_ite h
      exact .inl ⟨_, _, rfl, rfl, hc, post_val s h (.int _)⟩
    · rename_i ea n
      obtain ⟨xs, e1, h⟩ := getM_bind h
      obtain ⟨⟨c1, c2, c3⟩, h⟩ := post_ite h
      obtain ⟨vs, h1, r1⟩ := s.lst_at e1 ea
      refine .inr ⟨_, _, vs, rfl, rfl, h1, c1, c2, by rw [← r1.length]; exact c3, post_alloc s h ?_⟩
      generalize n.toNat = k
      induction k with
      | zero => exact .nil
      | succ k ih =>
        rw [List.replicate_succ, List.replicate_succ, List.flatten_cons, List.flatten_cons]
        exact r1.append ih
  | .fdiv => by
    refine OpR.imp op_fdivX ?_
    intro v u H Q h
    obtain ⟨Ex, m, S, x, y, s, rx, ry, h⟩ := h
    cases rx <;> cases ry <;> try exact (show False from h).elim
    obtain ⟨hc, h⟩ := post_ite h
    exact ⟨_, _, rfl, rfl, hc, post_val s h (.int _)⟩
  | .mod => by
    refine OpR.imp op_modN ?_
    intro v u H Q h
    obtain ⟨Ex, m, S, x, y, s, rx, ry, h⟩ := h
    cases rx <;> cases ry <;> try exact (show False from h).elim
    obtain ⟨hc, h⟩ := post_ite h
    exact ⟨_, _, rfl, rfl, hc, post_val s h (.int _)⟩
  | .pow => by
    refine OpR.imp op_powX ?_
    intro v u H Q h
    obtain ⟨Ex, m, S, x, y, s, rx, ry, h⟩ := h
    cases rx <;> cases ry <;> try exact (show False from h).elim
    obtain ⟨hc, h⟩ := post_ite h
    exact ⟨_, _, rfl, rfl, hc, post_val s h (.int _)⟩

/-! ### data -/
theorem mapO_get {α β : Type} {f : α → Option β} : ∀ {xs : List α} {ys : List β}, mapO f xs = some ys → ys.length = xs.length ∧ ∀ (i : Nat) (x : α), xs[i]? = some x → ∃ y, ys[i]? = some y ∧ f x = some y
  | [], ys, h => by
    unfold mapO at h
    cases h
    exact ⟨rfl, fun i x e => by simp at e⟩
  | x :: xs, ys, h => by
    unfold mapO at h
    cases e1 : f x with
    | none => rw [e1] at h; cases h
    | some y =>
      cases e2 : mapO f xs with
      | none => rw [e1, e2] at h; cases h
      | some ys' =>
        rw [e1, e2] at h
        cases h
        obtain ⟨l, g⟩ := mapO_get e2
        refine ⟨by simp [l], fun i z e => ?_⟩
        cases i with
        | zero => simp at e; subst e; exact ⟨y, rfl, e1⟩
        | succ i => simp at e; obtain ⟨w, w1, w2⟩ := g i z e; exact ⟨w, by simpa using w1, w2⟩
section
variable {K : PySem.W.Frag} {m : List Addr} {S : Store} {H : Hp}
theorem dpAll_of {f : D → Option PyData} (ih : ∀ (d : D) (v : V) (p : PyData), Rep m H d v → f d = some p → Dp K H v p) : ∀ {ds : List D} {vs : List V} {ps : List PyData}, Reps m H ds vs → mapO f ds = some ps → DpAll K H vs ps
  | [], _, _, r, h => by
    cases r
    unfold mapO at h
    cases h
    exact .nil
  | d :: ds, _, _, r, h => by
    cases r with
    | cons r1 r2 =>
      unfold mapO at h
      cases e1 : f d with
      | none => rw [e1] at h; cases h
      | some y =>
        cases e2 : mapO f ds with
        | none => rw [e1, e2] at h; cases h
        | some ys' =>
          rw [e1, e2] at h
          cases h
          exact .cons (ih d _ y r1 e1) (dpAll_of ih r2 e2)
theorem dp_of (s : SR K m S H) : ∀ (k : Nat) (d : D) (v : V) (p : PyData), Rep m H d v → pd S k d = some p → Dp K H v p
  | 0, d, v, p, r, h => by
    cases r <;> unfold pd at h
    · cases h; exact .non
    · cases h; exact .bl _
    · cases h; exact .int _
    · split at h
      · cases h; exact .str _
      · cases h
    · cases h
    · cases h
  | k + 1, d, v, p, r, h => by
    cases r with
    | non => unfold pd at h; cases h; exact .non
    | bl b => unfold pd at h; cases h; exact .bl _
    | int i => unfold pd at h; cases h; exact .int _
    | str x =>
      unfold pd at h
      split at h
      · cases h; exact .str _
      · cases h
    | tup e rs =>
      rename_i a xs vs
      unfold pd at h
      cases e1 : mapO (pd S k) xs with
      | none => rw [e1] at h; cases h
      | some ps =>
        rw [e1] at h
        cases h
        exact .tup (SqT.of e) (dpAll_of (dp_of s k) rs e1)
    | ref e =>
      rename_i l a
      unfold pd at h
      cases e0 : S[l]? with
      | none => rw [e0] at h; cases h
      | some o =>
        rw [e0] at h
        dsimp only at h
        cases e1 : mapO (pd S k) (items o) with
        | none => rw [e1] at h; cases h
        | some ps =>
          rw [e1] at h
          cases h
          obtain ⟨vs, q, rs⟩ := s.sq_at e0 e
          exact .lst q (dpAll_of (dp_of s k) rs e1)
end
theorem canAll_of {f : D → Option PyData} {n : Nat} (ih : ∀ (d : D) (p : PyData), f d = some p → p.canLay0 = true ∧ p.depth ≤ n) : ∀ {ds : List D} {ps : List PyData}, mapO f ds = some ps → PyData.canLayAll0 ps = true ∧ PyData.depthAll ps ≤ n
  | [], _, h => by
    unfold mapO at h
    cases h
    exact ⟨by simp [PyData.canLayAll0], by simp [PyData.depthAll]⟩
  | d :: ds, _, h => by
    unfold mapO at h
    cases e1 : f d with
    | none => rw [e1] at h; cases h
    | some y =>
      cases e2 : mapO f ds with
      | none => rw [e1, e2] at h; cases h
      | some ys' =>
        rw [e1, e2] at h
        cases h
        obtain ⟨h1, h2⟩ := canAll_of ih e2
        obtain ⟨h3, h4⟩ := ih d y e1
        refine ⟨by simp [PyData.canLayAll0, h1, h3], ?_⟩
        simp only [PyData.depthAll]
        omega
theorem pd_shape {S : Store} : ∀ (k : Nat) (d : D) (p : PyData), pd S k d = some p → p.canLay0 = true ∧ p.depth ≤ k
  | 0, d, p, h => by
    cases d <;> unfold pd at h <;> first
      | (cases h; exact ⟨by simp [PyData.canLay0], by simp [PyData.depth]⟩)
      | (split at h <;> cases h; exact ⟨by simp only [PyData.canLay0]; assumption, by simp [PyData.depth]⟩)
      | cases h
  | k + 1, d, p, h => by
    cases d with
    | non => unfold pd at h; cases h; exact ⟨by simp [PyData.canLay0], by simp [PyData.depth]⟩
    | bl b => unfold pd at h; cases h; exact ⟨by simp [PyData.canLay0], by simp [PyData.depth]⟩
    | int i => unfold pd at h; cases h; exact ⟨by simp [PyData.canLay0], by simp [PyData.depth]⟩
    | str x =>
      unfold pd at h
      split at h
      · cases h; exact ⟨by simp only [PyData.canLay0]; assumption, by simp [PyData.depth]⟩
      · cases h
    | tup xs =>
      unfold pd at h
      cases e1 : mapO (pd S k) xs with
      | none => rw [e1] at h; cases h
      | some ps =>
        rw [e1] at h
        cases h
        obtain ⟨h1, h2⟩ := canAll_of (pd_shape k) e1
        exact ⟨by simp only [PyData.canLay0]; exact h1, by simp only [PyData.depth]; omega⟩
    | ref l =>
      unfold pd at h
      cases e0 : S[l]? with
      | none => rw [e0] at h; cases h
      | some o =>
        rw [e0] at h
        dsimp only at h
        cases e1 : mapO (pd S k) (items o) with
        | none => rw [e1] at h; cases h
        | some ps =>
          rw [e1] at h
          cases h
          obtain ⟨h1, h2⟩ := canAll_of (pd_shape k) e1
          exact ⟨by simp only [PyData.canLay0]; exact h1, by simp only [PyData.depth]; omega⟩
theorem pd_shaped {S : Store} {k : Nat} {d : D} {p : PyData} (h : pd S k d = some p) (hk : k ≤ 64) : SeqAt.shaped p = true := by
  obtain ⟨h1, h2⟩ := pd_shape k d p h
  show (p.canLay0 && decide (p.depth ≤ 64)) = true
  rw [Bool.and_eq_true]
  exact ⟨h1, decide_eq_true (by omega)⟩
end
end NL

namespace NL
open PySem PySem.Spec PyProof.Rows L2
/-! ### comparisons -/
theorem mapO_mono {α β : Type} {f g : α → Option β} (h : ∀ x y, f x = some y → g x = some y) : ∀ {xs : List α} {ys : List β}, mapO f xs = some ys → mapO g xs = some ys
  | [], _, e => e
  | x :: xs, _, e => by
    unfold mapO at e ⊢
    cases e1 : f x with
    | none => rw [e1] at e; cases e
    | some y =>
      cases e2 : mapO f xs with
      | none => rw [e1, e2] at e; cases e
      | some ys' =>
        rw [e1, e2] at e
        rw [h _ _ e1, mapO_mono h e2]
        exact e
theorem pd_nil {S : Store} : ∀ (k : Nat) (d : D) (p : PyData), pd [] k d = some p → pd S k d = some p
  | 0, d, p, h => by cases d <;> first | exact h | (unfold pd at h; cases h)
  | k + 1, d, p, h => by
    cases d with
    | tup xs =>
      unfold pd at h ⊢
      cases e : mapO (pd [] k) xs with
      | none => rw [e] at h; cases h
      | some ps => rw [e] at h; rw [mapO_mono (pd_nil k) e]; exact h
    | ref l => unfold pd at h; simp at h
    | non => exact h
    | bl b => exact h
    | int i => exact h
    | str x => exact h
section
variable {X : Cx} {pins : List (Addr × Obj)} {σ : L2.St} {H : Hp} {s : Shared} {m : List Addr} {S : Store}
theorem eq_at (I : Inv X pins σ H s) (sr : SR X.K m S H) {k : Nat} {x y : D} {p q : PyData} {v w : V} {u u' : Value} (hx : pd S k x = some p) (hy : pd S k y = some q) (rx : Rep m H x v) (ry : Rep m H y w) (rv : RelV v u) (rw' : RelV w u')
    (A : Around) (hu : A.units + k < cLine) : PySem.SeqAt.EqAt A s u u' (PyData.eqv p q) := by
  obtain ⟨as, r1⟩ := Dp.reads I p v u (dp_of sr k x v p rx hx) rv
  obtain ⟨bs, r2⟩ := Dp.reads I q w u' (dp_of sr k y w q ry hy) rw'
  obtain ⟨c1, d1⟩ := pd_shape k x p hx
  obtain ⟨c2, d2⟩ := pd_shape k y q hy
  exact SeqAt.eqAt_reads p q A s u u' as bs r1 r2 c1 c2 (by have : min p.depth q.depth ≤ k := Nat.le_trans (Nat.min_le_left _ _) d1; omega)
theorem lex_at {o : Cop} (ho : o = .lt ∨ o = .le ∨ o = .gt ∨ o = .ge) {f : D → D → Option Bool} : ∀ (xs ys : List D) (i : Nat) (e r : Nat → Bool) (b : Bool), lexO o f xs ys = some b →
    (∀ j x y, xs[j]? = some x → ys[j]? = some y → eqD [] x y = some (e (i + j))) → (∀ j x y, xs[j]? = some x → ys[j]? = some y → e (i + j) = false → f x y = some (r (i + j))) →
    b = Ob.lexAt e r (ord4 o xs.length ys.length) i (min xs.length ys.length)
  | [], [], i, e, r, b, h, _, _ => by
    unfold lexO at h
    cases h
    rfl
  | [], y :: ys, i, e, r, b, h, _, _ => by
    unfold lexO at h
    cases h
    rw [List.length_nil, Nat.zero_min, Ob.lexAt_zero]
    rcases ho with rfl | rfl | rfl | rfl <;> simp [ord4] <;> omega
  | x :: xs, [], i, e, r, b, h, _, _ => by
    unfold lexO at h
    cases h
    rw [List.length_nil, Nat.min_zero, Ob.lexAt_zero]
    rcases ho with rfl | rfl | rfl | rfl <;> simp [ord4] <;> omega
  | x :: xs, y :: ys, i, e, r, b, h, he, hr => by
    have e0 := he 0 x y rfl rfl
    rw [Nat.add_zero] at e0
    have hm : min (x :: xs).length (y :: ys).length = min xs.length ys.length + 1 := by simp only [List.length_cons]; omega
    rw [hm, Ob.lexAt_succ]
    unfold lexO at h
    rw [e0] at h
    have hl : ord4 o ((x :: xs).length : Nat) ((y :: ys).length : Nat) = ord4 o (xs.length : Nat) (ys.length : Nat) := by
      rcases ho with rfl | rfl | rfl | rfl <;> simp only [ord4, List.length_cons] <;> congr 1 <;> simp
    cases q : e i with
    | true =>
      rw [q] at h
      rw [if_pos rfl, hl]
      exact lex_at ho xs ys (i + 1) e r b h (fun j x' y' h1 h2 => by rw [show i + 1 + j = i + (j + 1) by omega]; exact he (j + 1) x' y' h1 h2) (fun j x' y' h1 h2 => by rw [show i + 1 + j = i + (j + 1) by omega]; exact hr (j + 1) x' y' h1 h2)
    | false =>
      rw [q] at h
      rw [if_neg Bool.false_ne_true]
      have z := hr 0 x y rfl rfl (by rw [Nat.add_zero]; exact q)
      rw [Nat.add_zero] at z
      rw [z] at h
      exact (Option.some.inj h).symm
theorem ordD_cases {o : Cop} {k : Nat} {x y : D} {b : Bool} (h : ordD o k x y = some b) : (∃ i j, x = .int i ∧ y = .int j ∧ b = ord4 o i j) ∨ ∃ k' xs ys, k = k' + 1 ∧ x = .tup xs ∧ y = .tup ys ∧
    ((xs.zip ys).all fun p => match eqD [] p.1 p.2 with | some true => true | some false => (ordD o k' p.1 p.2).isSome | none => false) = true ∧ lexO o (ordD o k') xs ys = some b := by
  cases k with
  | zero =>
    cases x <;> cases y <;> simp only [ordD] at h <;> try cases h
    exact .inl ⟨_, _, rfl, rfl, rfl⟩
  | succ k =>
    cases x <;> cases y <;> simp only [ordD] at h <;> try cases h
    · exact .inl ⟨_, _, rfl, rfl, rfl⟩
    · split at h
      · rename_i hall
        exact .inr ⟨_, _, _, rfl, rfl, rfl, hall, h⟩
      · cases h
theorem ord_rc (I : Inv X pins σ H s) (sr : SR X.K m S H) {o : Cop} (ho : o = .lt ∨ o = .le ∨ o = .gt ∨ o = .ge) : ∀ (k : Nat) (x y : D) (b : Bool) (v w : V) (u u' : Value) (A : Around), ordD o k x y = some b → Rep m H x v → Rep m H y w → RelV v u → RelV w u' →
    A.units + k + 14 < cLine → Ob.RcOp o.op A s u u' b := by
  intro k
  induction k with
  | zero =>
    intro x y b v w u u' A h rx ry rv rw' hu
    rcases ordD_cases h with ⟨i, j, rfl, rfl, rfl⟩ | ⟨k', xs, ys, e, _⟩
    · cases rx
      cases ry
      obtain ⟨t, rfl⟩ := rv
      obtain ⟨t', rfl⟩ := rw'
      rcases ho with rfl | rfl | rfl | rfl
      · exact Ob.RcOp.lt_int _ _ _ _
      · exact Ob.RcOp.le_int _ _ _ _
      · exact Ob.RcOp.gt_int _ _ _ _
      · exact Ob.RcOp.ge_int _ _ _ _
    · cases e
  | succ k ih =>
    intro x y b v w u u' A h rx ry rv rw' hu
    rcases ordD_cases h with ⟨i, j, rfl, rfl, rfl⟩ | ⟨k', xs, ys, e, rfl, rfl, hall, h⟩
    · cases rx
      cases ry
      obtain ⟨t, rfl⟩ := rv
      obtain ⟨t', rfl⟩ := rw'
      rcases ho with rfl | rfl | rfl | rfl
      · exact Ob.RcOp.lt_int _ _ _ _
      · exact Ob.RcOp.le_int _ _ _ _
      · exact Ob.RcOp.gt_int _ _ _ _
      · exact Ob.RcOp.ge_int _ _ _ _
    · cases e
      cases rx with
      | tup ea ra =>
        cases ry with
        | tup eb rb =>
          cases rv
          cases rw'
          obtain ⟨its, r1, p1, z1⟩ := I.tuple (SqT.of ea)
          obtain ⟨its2, r2, p2, z2⟩ := I.tuple (SqT.of eb)
          rw [List.all_eq_true] at hall
          have hp : ∀ (j : Nat) (x y : D), xs[j]? = some x → ys[j]? = some y → ∃ c, eqD [] x y = some c ∧ (c = false → (ordD o k x y).isSome = true) := fun j x y h1 h2 => by
            have hm : (x, y) ∈ xs.zip ys := List.mem_of_getElem? (i := j) (by rw [List.getElem?_zip_eq_some]; exact ⟨h1, h2⟩)
            have q := hall _ hm
            dsimp only at q
            cases e : eqD [] x y with
            | none => rw [e] at q; cases q
            | some c =>
              refine ⟨c, rfl, fun hc => ?_⟩
              subst hc
              rw [e] at q
              exact q
          have e : ∃ e : Nat → Bool, ∀ (j : Nat) (x y : D), xs[j]? = some x → ys[j]? = some y → eqD [] x y = some (e j) := ⟨fun j => match xs[j]?, ys[j]? with | some x, some y => (eqD [] x y).getD false | _, _ => false, fun j x y h1 h2 => by
            obtain ⟨c, hc, _⟩ := hp j x y h1 h2
            dsimp only
            rw [h1, h2]
            dsimp only
            rw [hc]; rfl⟩
          obtain ⟨e, he⟩ := e
          have r : ∃ r : Nat → Bool, ∀ (j : Nat) (x y : D), xs[j]? = some x → ys[j]? = some y → e j = false → ordD o k x y = some (r j) := ⟨fun j => match xs[j]?, ys[j]? with | some x, some y => (ordD o k x y).getD false | _, _ => false, fun j x y h1 h2 h3 => by
            obtain ⟨c, hc, hs⟩ := hp j x y h1 h2
            have := he j x y h1 h2
            rw [hc] at this
            cases this
            obtain ⟨d, hd⟩ := Option.isSome_iff_exists.mp (hs h3)
            dsimp only
            rw [h1, h2]
            dsimp only
            rw [hd]; rfl⟩
          obtain ⟨r, hr⟩ := r
          have hb := lex_at ho xs ys 0 e r b h (fun j x y h1 h2 => by rw [Nat.zero_add]; exact he j x y h1 h2) (fun j x y h1 h2 h3 => by rw [Nat.zero_add] at h3 ⊢; exact hr j x y h1 h2 h3)
          have n1 : its.toArray.size = xs.length := by rw [List.size_toArray, ← r1.length, ra.length]
          have n2 : its2.toArray.size = ys.length := by rw [List.size_toArray, ← r2.length, rb.length]
          have at1 : ∀ (j : Nat) (hj : j < its.toArray.size), ∃ x v, xs[j]? = some x ∧ Rep m H x v ∧ RelV v its.toArray[j] := fun j hj => by
            have hj' : j < xs.length := by omega
            obtain ⟨v, h1, h2⟩ := ra.get (List.getElem?_eq_getElem hj')
            obtain ⟨u, h3, h4⟩ := r1.get h1
            refine ⟨_, v, List.getElem?_eq_getElem hj', h2, ?_⟩
            have : its.toArray[j] = u := by
              have hl : j < its.length := by simpa using hj
              rw [List.getElem?_eq_getElem hl] at h3
              simpa using Option.some.inj h3
            rw [this]; exact h4
          have at2 : ∀ (j : Nat) (hj : j < its2.toArray.size), ∃ x v, ys[j]? = some x ∧ Rep m H x v ∧ RelV v its2.toArray[j] := fun j hj => by
            have hj' : j < ys.length := by omega
            obtain ⟨v, h1, h2⟩ := rb.get (List.getElem?_eq_getElem hj')
            obtain ⟨u, h3, h4⟩ := r2.get h1
            refine ⟨_, v, List.getElem?_eq_getElem hj', h2, ?_⟩
            have : its2.toArray[j] = u := by
              have hl : j < its2.length := by simpa using hj
              rw [List.getElem?_eq_getElem hl] at h3
              simpa using Option.some.inj h3
            rw [this]; exact h4
          have HE : ∀ j (h1 : j < its.toArray.size) (h2 : j < its2.toArray.size), PySem.SeqAt.EqAt A.in1 s its.toArray[j] its2.toArray[j] (e j) := fun j h1 h2 => by
            obtain ⟨x, v, q1, q2, q3⟩ := at1 j h1
            obtain ⟨y, w, q4, q5, q6⟩ := at2 j h2
            have q := he j x y q1 q4
            unfold eqD at q
            cases c1 : pd [] 12 x with
            | none => rw [c1] at q; cases q
            | some p =>
              cases c2 : pd [] 12 y with
              | none => rw [c1, c2] at q; cases q
              | some p' =>
                rw [c1, c2] at q
                have q' := Option.some.inj q
                rw [← q']
                exact eq_at I sr (pd_nil 12 x p c1) (pd_nil 12 y p' c2) q2 q5 q3 q6 A.in1 (by show A.units + 1 + 12 < cLine; omega)
          have HR : ∀ j (h1 : j < its.toArray.size) (h2 : j < its2.toArray.size), e j = false → Ob.RcOp o.op A.in1 s its.toArray[j] its2.toArray[j] (r j) := fun j h1 h2 h3 => by
            obtain ⟨x, v, q1, q2, q3⟩ := at1 j h1
            obtain ⟨y, w, q4, q5, q6⟩ := at2 j h2
            exact ih x y (r j) v w _ _ A.in1 (hr j x y q1 q4 h3) q2 q5 q3 q6 (by show A.units + 1 + k + 14 < cLine; omega)
          rw [hb]
          rcases ho with rfl | rfl | rfl | rfl
          · have z := Ob.RcOp.tuples_lt p1 p2 (by omega) HE HR
            rw [n1, n2] at z
            have e2 : ord4 .lt (xs.length : Nat) (ys.length : Nat) = decide (xs.length < ys.length) := by simp [ord4]
            rw [e2]; exact z
          · have z := Ob.RcOp.tuples_le p1 p2 (by omega) HE HR
            rw [n1, n2] at z
            have e2 : ord4 .le (xs.length : Nat) (ys.length : Nat) = decide (xs.length ≤ ys.length) := by simp [ord4]
            rw [e2]; exact z
          · have z := Ob.RcOp.tuples_gt p1 p2 (by omega) HE HR
            rw [n1, n2] at z
            have e2 : ord4 .gt (xs.length : Nat) (ys.length : Nat) = decide (xs.length > ys.length) := by simp [ord4]
            rw [e2]; exact z
          · have z := Ob.RcOp.tuples_ge p1 p2 (by omega) HE HR
            rw [n1, n2] at z
            have e2 : ord4 .ge (xs.length : Nat) (ys.length : Nat) = decide (xs.length ≥ ys.length) := by simp [ord4]
            rw [e2]; exact z
end
end NL

namespace NL
open PySem PySem.Spec PyProof.Rows L2
section
variable {X : Cx}
theorem ofB_some {Ex : Str → Option Nat → List Addr → Store → Hp → Prop} {K : PySem.W.Frag} {m : List Addr} {S : Store} {H : Hp} {b : Option Bool} {F : D → List Addr → Store → Hp → Prop} (h : post K Ex m H (ofB b S) F) : ∃ c, b = some c ∧ post K Ex m H (.ok (.bl c) S) F := by
  cases b with
  | none => exact h.elim
  | some c => exact ⟨c, rfl, h⟩
theorem op_ordD (hu : X.A.units + 26 < cLine) {o : Cop} (ho : o = .lt ∨ o = .le ∨ o = .gt ∨ o = .ge) : OpR X (compareOp o.op) (rD X.K (cmpD o)) := by
  intro pins s σ H v w u u' Q I rv rw' h
  obtain ⟨Ex, m, S, x, y, sr, rx, ry, h⟩ := h
  have h : post X.K Ex m H (ofB (ordD o 12 x y) S) (fun d m' _ H' => ∀ w, Rep m' H' d w → Q w H') := by
    rcases ho with rfl | rfl | rfl | rfl <;> exact h
  obtain ⟨c, e, h⟩ := ofB_some h
  have R := ord_rc I sr ho 12 x y c v w u u' X.A e rx ry rv rw' hu
  have z : wpAny (model X.prog X.w) X.A (richCompare o.op u u') (EP X pins σ Q) X.xe s := R X.prog X.w X.xe (EP X pins σ Q) ⟨.bl c, H, I, rfl, post_val sr h (.bl c)⟩
  rcases ho with rfl | rfl | rfl | rfl <;> exact z
theorem eqD_some {S : Store} {x y : D} {b : Bool} (h : eqD S x y = some b) : ∃ p q, pd S 12 x = some p ∧ pd S 12 y = some q ∧ b = PyData.eqv p q := by
  unfold eqD at h
  cases c1 : pd S 12 x with
  | none => rw [c1] at h; cases h
  | some p =>
    cases c2 : pd S 12 y with
    | none => rw [c1, c2] at h; cases h
    | some q => rw [c1, c2] at h; exact ⟨p, q, rfl, rfl, (Option.some.inj h).symm⟩
theorem op_eqX (hu : X.A.units + 64 < cLine) : OpR X (compareOp .Eq) (rD X.K (cmpD .eq)) := by
  refine OpR.imp (op_eqD hu) ?_
  intro v u H Q h
  obtain ⟨Ex, m, S, x, y, s, rx, ry, h⟩ := h
  obtain ⟨c, e, hp⟩ := ofB_some h
  obtain ⟨p, q, h1, h2, rfl⟩ := eqD_some e
  exact ⟨p, q, dp_of s 12 x v p rx h1, dp_of s 12 y u q ry h2, pd_shaped h1 (by decide), pd_shaped h2 (by decide), post_val s hp (.bl _)⟩
theorem op_neX (hu : X.A.units + 64 < cLine) : OpR X (compareOp .NotEq) (rD X.K (cmpD .ne)) := by
  refine OpR.imp (op_neD hu) ?_
  intro v u H Q h
  obtain ⟨Ex, m, S, x, y, s, rx, ry, h⟩ := h
  obtain ⟨c, e, hp⟩ := ofB_some h
  obtain ⟨b, e', rfl⟩ := Option.map_eq_some_iff.mp e
  obtain ⟨p, q, h1, h2, rfl⟩ := eqD_some e'
  exact ⟨p, q, dp_of s 12 x v p rx h1, dp_of s 12 y u q ry h2, pd_shaped h1 (by decide), pd_shaped h2 (by decide), post_val s hp (.bl _)⟩
theorem all_shape {S : Store} {ds : List D} {ps : List PyData} (h : mapO (pd S 12) ds = some ps) : PyData.canLayAll0 ps = true ∧ PyData.depthAll ps ≤ 12 := canAll_of (pd_shape 12) h
/-- x in a tuple -/
theorem op_in_tup (hu : X.A.units + 65 < cLine) (ng : Bool) : OpR X (compareOp (if ng then .NotIn else .In)) (fun x y H Q => ∃ d ds a xs, Dp X.K H x d ∧ y = .ref a ∧ SqT X.K H a xs ∧ DpAll X.K H xs ds ∧ SeqAt.shaped d = true ∧ PyData.canLayAll0 ds = true ∧ Q (.bl (ng != ds.any fun z => PyData.eqv z d)) H) := by
  intro pins s σ H x y v u Q I rx ry h
  obtain ⟨d, ds, a, xs, hd, rfl, ht, ha, sd, sl, q⟩ := h
  cases ry
  obtain ⟨as, r1⟩ := Dp.reads I d x v hd rx
  obtain ⟨bs, r2⟩ := Dp.reads I (.tuple ds) (.ref a) (.ref a) (.tup ht ha) rfl
  cases ng with
  | true => exact SeqAt.notIn_tuple_reads r2 r1 sl (SeqAt.canLay_of_shaped sd) (room_in_shaped sd hu) ⟨.bl _, H, I, rfl, by simpa using q⟩
  | false => exact SeqAt.in_tuple_reads r2 r1 sl (SeqAt.canLay_of_shaped sd) (room_in_shaped sd hu) ⟨.bl _, H, I, rfl, by simpa using q⟩
theorem inD_some {S : Store} {x y : D} {b : Bool} (h : inD S x y = some b) : ∃ p qs ds, pd S 12 x = some p ∧ mapO (pd S 12) ds = some qs ∧ b = (qs.any fun q => PyData.eqv q p) ∧ (y = .tup ds ∨ ∃ l o, y = .ref l ∧ S[l]? = some o ∧ items o = ds) := by
  cases y with
  | tup ys =>
    simp only [inD] at h
    cases c1 : pd S 12 x with
    | none => rw [c1] at h; cases h
    | some p =>
      cases c2 : mapO (pd S 12) ys with
      | none => rw [c1, c2] at h; cases h
      | some q => rw [c1, c2] at h; exact ⟨p, q, ys, rfl, c2, (Option.some.inj h).symm, .inl rfl⟩
  | ref l =>
    simp only [inD] at h
    cases c0 : S[l]? with
    | none => rw [c0] at h; cases h
    | some o =>
      rw [c0] at h
      dsimp only at h
      cases c1 : pd S 12 x with
      | none => rw [c1] at h; cases h
      | some p =>
        cases c2 : mapO (pd S 12) (items o) with
        | none => rw [c1, c2] at h; cases h
        | some q => rw [c1, c2] at h; exact ⟨p, q, items o, rfl, c2, (Option.some.inj h).symm, .inr ⟨l, o, rfl, c0, rfl⟩⟩
  | _ => simp only [inD] at h; cases h
theorem list_shaped {S : Store} {ds : List D} {ps : List PyData} (h : mapO (pd S 12) ds = some ps) : SeqAt.shaped (.list ps) = true := by
  obtain ⟨h1, h2⟩ := all_shape h
  show (PyData.canLay0 (.list ps) && decide (PyData.depth (.list ps) ≤ 64)) = true
  rw [Bool.and_eq_true]
  exact ⟨by simp only [PyData.canLay0]; exact h1, decide_eq_true (by simp only [PyData.depth]; omega)⟩
theorem op_inX (hu : X.A.units + 65 < cLine) : OpR X (compareOp .In) (rD X.K (cmpD .isIn)) := by
  refine OpR.imp (OpR.or (op_in_tup hu false) (op_inD hu)) ?_
  intro v u H Q h
  obtain ⟨Ex, m, S, x, y, s, rx, ry, h⟩ := h
  obtain ⟨c, e, hp⟩ := ofB_some h
  obtain ⟨p, qs, ds, h1, h2, rfl, h3⟩ := inD_some e
  rcases h3 with rfl | ⟨l, o, rfl, e0, rfl⟩
  · cases ry with
    | tup ea ra => exact .inl ⟨p, qs, _, _, dp_of s 12 x v p rx h1, rfl, SqT.of ea, dpAll_of (dp_of s 12) ra h2, pd_shaped h1 (by decide), (all_shape h2).1, by simpa using post_val s hp (.bl _)⟩
  · cases ry with
    | ref ea =>
      obtain ⟨vs, q, rs⟩ := s.sq_at e0 ea
      exact .inr ⟨p, qs, dp_of s 12 x v p rx h1, .lst q (dpAll_of (dp_of s 12) rs h2), pd_shaped h1 (by decide), list_shaped h2, post_val s hp (.bl _)⟩
theorem op_notInX (hu : X.A.units + 65 < cLine) : OpR X (compareOp .NotIn) (rD X.K (cmpD .notIn)) := by
  refine OpR.imp (OpR.or (op_in_tup hu true) (op_notInD hu)) ?_
  intro v u H Q h
  obtain ⟨Ex, m, S, x, y, s, rx, ry, h⟩ := h
  obtain ⟨c, e, hp⟩ := ofB_some h
  obtain ⟨b, e', rfl⟩ := Option.map_eq_some_iff.mp e
  obtain ⟨p, qs, ds, h1, h2, rfl, h3⟩ := inD_some e'
  rcases h3 with rfl | ⟨l, o, rfl, e0, rfl⟩
  · cases ry with
    | tup ea ra => exact .inl ⟨p, qs, _, _, dp_of s 12 x v p rx h1, rfl, SqT.of ea, dpAll_of (dp_of s 12) ra h2, pd_shaped h1 (by decide), (all_shape h2).1, by simpa using post_val s hp (.bl _)⟩
  · cases ry with
    | ref ea =>
      obtain ⟨vs, q, rs⟩ := s.sq_at e0 ea
      exact .inr ⟨p, qs, dp_of s 12 x v p rx h1, .lst q (dpAll_of (dp_of s 12) rs h2), pd_shaped h1 (by decide), list_shaped h2, post_val s hp (.bl _)⟩
/-- a value and a written None, True, False -/
theorem op_isV (ng : Bool) : OpR X (compareOp (if ng then .IsNot else .Is)) (fun x y H Q => (y = .non ∧ Q (.bl (ng != decide (x = .non))) H) ∨ ∃ b, y = .bl b ∧ Q (.bl (ng != decide (x = .bl b))) H) := by
  intro pins s σ H x y v u Q I rx ry h
  rcases h with ⟨rfl, q⟩ | ⟨b, rfl, q⟩
  · cases ng with
    | true => exact op_notN pins s σ H x .non v u Q I rx ry ⟨rfl, by simpa using q⟩
    | false => exact op_isN pins s σ H x .non v u Q I rx ry ⟨rfl, by simpa using q⟩
  · cases (show u = Value.bool b from ry)
    by_cases e : x = .bl b
    · subst e
      cases (show v = Value.bool b from rx)
      cases ng with
      | true => exact wpAny_isNot_self rfl ⟨.bl false, H, I, rfl, by simpa using q⟩
      | false => exact wpAny_is_self rfl ⟨.bl true, H, I, rfl, by simpa using q⟩
    · have hne : v ≠ Value.bool b := fun z => e (RelV.inj rx (show RelV (.bl b) v from z))
      have hp : plainIs v (Value.bool b) = true := by cases v <;> first | rfl | (cases x <;> first | exact nomatch rx | (obtain ⟨_, z⟩ := rx; cases z))
      cases ng with
      | true => exact wpAny_isNot_other hp hne ⟨.bl true, H, I, rfl, by simpa [e] using q⟩
      | false => exact wpAny_is_other hp hne ⟨.bl false, H, I, rfl, by simpa [e] using q⟩
theorem isD_some {m : List Addr} {H : Hp} {x y : D} {v u : V} {b : Bool} (h : isD x y = some b) (rx : Rep m H x v) (ry : Rep m H y u) : (u = .non ∧ b = decide (v = .non)) ∨ ∃ c, u = .bl c ∧ b = decide (v = .bl c) := by
  cases y <;> simp only [isD] at h <;> try cases h
  · cases ry
    refine .inl ⟨rfl, ?_⟩
    cases rx <;> simp
  · cases ry
    refine .inr ⟨_, rfl, ?_⟩
    cases rx <;> first | (simp; done) | (rename_i c d; cases c <;> cases d <;> rfl)
theorem op_isX : OpR X (compareOp .Is) (rD X.K (cmpD .is_)) := by
  refine OpR.imp (op_isV false) ?_
  intro v u H Q h
  obtain ⟨Ex, m, S, x, y, s, rx, ry, h⟩ := h
  obtain ⟨c, e, hp⟩ := ofB_some h
  rcases isD_some e rx ry with ⟨rfl, rfl⟩ | ⟨b, rfl, rfl⟩
  · exact .inl ⟨rfl, by simpa using post_val s hp (.bl _)⟩
  · exact .inr ⟨b, rfl, by simpa using post_val s hp (.bl _)⟩
theorem op_isNotX : OpR X (compareOp .IsNot) (rD X.K (cmpD .isNot)) := by
  refine OpR.imp (op_isV true) ?_
  intro v u H Q h
  obtain ⟨Ex, m, S, x, y, s, rx, ry, h⟩ := h
  obtain ⟨c, e, hp⟩ := ofB_some h
  obtain ⟨c', e', rfl⟩ := Option.map_eq_some_iff.mp e
  rcases isD_some e' rx ry with ⟨rfl, rfl⟩ | ⟨b, rfl, rfl⟩
  · exact .inl ⟨rfl, by simpa using post_val s hp (.bl _)⟩
  · exact .inr ⟨b, rfl, by simpa using post_val s hp (.bl _)⟩
theorem op_cmpD (hu : X.A.units + 65 < cLine) : ∀ o : Cop, OpR X (compareOp o.op) (rD X.K (cmpD o))
  | .lt => op_ordD (by omega) (.inl rfl)
  | .le => op_ordD (by omega) (.inr (.inl rfl))
  | .gt => op_ordD (by omega) (.inr (.inr (.inl rfl)))
  | .ge => op_ordD (by omega) (.inr (.inr (.inr rfl)))
  | .eq => op_eqX (by omega)
  | .ne => op_neX (by omega)
  | .isIn => op_inX hu
  | .notIn => op_notInX hu
  | .is_ => op_isX
  | .isNot => op_isNotX
/-! ### one place, a place of a list -/
def rD1 (K : PySem.W.Frag) (g : D → M D) : V → Hp → VK → Prop := fun v H Q => ∃ Ex m S x, SR K m S H ∧ Rep m H x v ∧ post K Ex m H (g x S) (fun d m' _ H' => ∀ w, Rep m' H' d w → Q w H')
theorem ix_D : IxR X (rD X.K ixD) := by
  intro value slice pins s σ H v u w w' Q I rv ru h hs
  refine ix_seq value slice pins s σ H v u w w' Q I rv ru ?_ hs
  obtain ⟨Ex, m, S, x, y, sr, rx, ry, h⟩ := h
  cases rx <;> cases ry <;> try exact (show False from h).elim
  · rename_i xs vs ea ra i
    simp only [ixD] at h
    cases e : atI xs i with
    | none => rw [e] at h; exact h.elim
    | some d =>
      rw [e] at h
      obtain ⟨j, h1, h2, h3, h4, h5⟩ := atI_get e
      obtain ⟨w, h6, h7⟩ := ra.get h2
      refine .inr (.inl ⟨_, vs, i, w, rfl, rfl, SqT.of ea, ?_, post_val sr h h7⟩)
      unfold atI at e ⊢
      rw [← ra.length]
      cases e2 : ixN xs.length i with
      | none => rw [e2] at e; cases e
      | some j' =>
        have := (ixN_seq e2).1
        rw [h1] at this
        cases this
        exact h6
  · rename_i l a ea i
    obtain ⟨o, e0, h⟩ := getL_bind h
    obtain ⟨vs, q, ra⟩ := sr.sq_at e0 ea
    cases e : atI (items o) i with
    | none => rw [e] at h; exact h.elim
    | some d =>
      rw [e] at h
      obtain ⟨j, h1, h2, h3, h4, h5⟩ := atI_get e
      obtain ⟨w, h6, h7⟩ := ra.get h2
      refine .inl ⟨_, vs, i, w, rfl, rfl, q, ?_, post_val sr h h7⟩
      unfold atI at e ⊢
      rw [← ra.length]
      cases e2 : ixN (items o).length i with
      | none => rw [e2] at e; cases e
      | some j' =>
        have := (ixN_seq e2).1
        rw [h1] at this
        cases this
        exact h6
end
end NL

/-! min and max of values that are ordered by what stands in the heap (tuples) -/
namespace NL
open PySem PySem.Spec PyProof.Rows
/-- a comparison by places, where G holds of the heap -/
def CmpG (prog : Program) (w : World) (A : Around) (op : CmpOp) (G : Shared → Prop) (P : Nat → Value → Prop) (bt : Nat → Nat → Bool) : Prop :=
  ∀ (i j : Nat) (x y : Value) (s : Shared) (Q E : Value → Shared → Prop), G s → P i x → P j y → Q (.bool (bt i j)) s → wpAny (model prog w) A (richCompare op x y) Q E s
/-- kept but for the iterator's own and T -/
abbrev Kp (wr : List Addr) (T : Addr) (h h' : Heap) : Prop := ∀ b o, b ∉ wr → b ≠ T → h.get? b = some o → h'.get? b = some o
abbrev two (x : Value) (c : Nat) : Obj := { cls := .type "list", dict := none, data := .seq #[x, x] c, slots := #[] }
section
variable {prog : Program} {w : World} {A : Around} {R : Result → Shared → Prop} {I T : Addr} {fp wr : List Addr} {n : Nat} {P : Nat → Value → Prop} {St : Nat → Heap → Prop} {bt : Nat → Nat → Bool} {G : Shared → Prop}

/-! #### min: the running best, with what is known of the heap kept -/
theorem min_turns (W : Walks prog w A.in1 I fp wr n P St) (hG : ∀ (s : Shared) (h' : Heap) (tk : Nat), G s → Kp wr T s.heap h' → G { s with heap := h', toks := tk }) (hc : CmpG prog w A.in1 .Lt G P bt) (hT : T ∉ fp) :
    ∀ (k j : Nat) (s : Shared) (x : Value) (c : Nat), n = j + 1 + k → St (j + 1) s.heap → G s → P (argBest bt j) x → s.heap.get? T = some (two x c) →
      (∀ v h' tk, P (argBest bt (n - 1)) v → Kp wr T s.heap h' → R (.ok (.ret v)) { s with heap := h', toks := tk }) →
      codeAny (model prog w) A (.builtin "min.loop" ⟨[.ref I, .none, .ref T], []⟩) R s := by
  have hw : T ∉ wr := fun q => hT (W.sub _ q)
  have nm : (toString "min" ++ toString ".loop" : String) = "min.loop" := by decide
  intro k
  induction k with
  | zero =>
    intro j s x c en st g px hx hr
    refine codeAny_builtin F.entry_min_loop (A := A) ?_
    rw [Around.under_plainId F.plain_min_loop _]
    show wpAny _ A.in1 (seqItems? (.ref T) >>= _) _ _ s
    refine wpAny_bind (wpAny_seqItems hx rfl (A := A.in1) ?_)
    show wpAny _ A.in1 (tryCatch (pyNext (.ref I)) _ >>= _) _ _ s
    refine wpAny_bind (wpAny_tryCatch (W.done s _ _ (by rw [en]; exact st) fun h1 tk k1 => ?_))
    have hx1 := k1 T _ hw hx
    show wpAny _ A.in1 (updateSeq T (fun _ => #[]) >>= _) _ _ _
    refine wpAny_bind (wpAny_updateSeq hx1 rfl (wpAny_bind (wpAny_letGo (wpAny_pure ?_))))
    exact hr x _ tk (by rw [en]; exact px) fun b o h1 h2 e => (Heap.get?_update_other _ _ (Ne.symm h2)).trans (k1 b o h1 e)
  | succ k ih =>
    intro j s x c en st g px hx hr
    refine codeAny_builtin F.entry_min_loop (A := A) ?_
    rw [Around.under_plainId F.plain_min_loop _]
    show wpAny _ A.in1 (seqItems? (.ref T) >>= _) _ _ s
    refine wpAny_bind (wpAny_seqItems hx rfl (A := A.in1) ?_)
    show wpAny _ A.in1 (tryCatch (pyNext (.ref I)) _ >>= _) _ _ s
    refine wpAny_bind (wpAny_tryCatch (W.item (j + 1) s _ _ (by omega) st fun v h1 tk pv st1 k1 => ?_))
    have hx1 := k1 T _ hw hx
    have g1 : G { s with heap := h1, toks := tk } := hG _ _ tk g fun b o q _ e => k1 b o q e
    show wpAny _ A.in1 (tryCatch (holding [v, v] (richCompare .Lt v x >>= _)) _ >>= _) _ _ _
    refine wpAny_bind (wpAny_tryCatch (wpAny_holding (wpAny_bind (hc (j + 1) (argBest bt j) v x { s with heap := h1, toks := tk } _ _ g1 pv px ?_))))
    refine wpAny_bind (wpAny_holding (wpAny_truthy_bool (wpAny_bind (wpAny_letGo (wpAny_pure ?_)))))
    cases hb : bt (j + 1) (argBest bt j) with
    | false =>
      simp only [Bool.false_eq_true, if_false]
      refine wpAny_bind (wpAny_letGo ?_)
      rw [nm]
      refine wpAny_pure ⟨plainId_quiet F.plain_min_loop _, ih (j + 1) { s with heap := h1, toks := tk } x c (by omega) st1 g1 (by simp only [argBest, hb, Bool.false_eq_true, if_false]; exact px) hx1 fun v' h2 t2 p2 k2 => ?_⟩
      exact hr v' h2 t2 p2 fun b o q1 q2 e => k2 b o q1 q2 (k1 b o q1 e)
    | true =>
      simp only [if_true]
      refine wpAny_bind (wpAny_updateSeq hx1 rfl (wpAny_bind (wpAny_letGo ?_)))
      rw [nm]
      have kk : ∀ b o, b ≠ T → h1.get? b = some o → (h1.update T (Obj.mapSeq fun _ => #[v, v])).get? b = some o := fun b o q e => (Heap.get?_update_other _ _ (Ne.symm q)).trans e
      refine wpAny_pure ⟨plainId_quiet F.plain_min_loop _, ih (j + 1) { s with heap := _, toks := tk } v _ (by omega) (W.frame _ _ _ st1 fun b hb2 o e => kk b o (fun q => hT (by rw [← q]; exact hb2)) e) (hG { s with heap := h1, toks := tk } _ tk g1 fun b o _ q e => kk b o q e)
        (by simp only [argBest, hb, if_true]; exact pv) (Heap.get?_update_self _ hx1 rfl) fun v' h2 t2 p2 k2 => ?_⟩
      exact hr v' h2 t2 p2 fun b o q1 q2 e => k2 b o q1 q2 (kk b o q2 (k1 b o q1 e))
theorem min_first (W : Walks prog w A.in1 I fp wr n P St) (hG : ∀ (s : Shared) (h' : Heap) (tk : Nat), G s → Kp wr T s.heap h' → G { s with heap := h', toks := tk }) (hc : CmpG prog w A.in1 .Lt G P bt) (hT : T ∉ fp) (hn : 0 < n) {s : Shared} {c : Nat}
    (st : St 0 s.heap) (g : G s) (hx : s.heap.get? T = some { cls := .type "list", dict := none, data := .seq #[] c, slots := #[] })
    (hr : ∀ v h' tk, P (argBest bt (n - 1)) v → Kp wr T s.heap h' → R (.ok (.ret v)) { s with heap := h', toks := tk }) :
    codeAny (model prog w) A (.builtin "min.loop" ⟨[.ref I, .none, .ref T], []⟩) R s := by
  have hw : T ∉ wr := fun q => hT (W.sub _ q)
  have nm : (toString "min" ++ toString ".loop" : String) = "min.loop" := by decide
  refine codeAny_builtin F.entry_min_loop (A := A) ?_
  rw [Around.under_plainId F.plain_min_loop _]
  show wpAny _ A.in1 (seqItems? (.ref T) >>= _) _ _ s
  refine wpAny_bind (wpAny_seqItems hx rfl (A := A.in1) ?_)
  show wpAny _ A.in1 (tryCatch (pyNext (.ref I)) _ >>= _) _ _ s
  refine wpAny_bind (wpAny_tryCatch (W.item 0 s _ _ hn st fun v h1 tk pv st1 k1 => ?_))
  have hx1 := k1 T _ hw hx
  have kk : ∀ b o, b ≠ T → h1.get? b = some o → (h1.update T (Obj.mapSeq fun _ => #[v, v])).get? b = some o := fun b o q e => (Heap.get?_update_other _ _ (Ne.symm q)).trans e
  have g1 : G { s with heap := h1, toks := tk } := hG _ _ tk g fun b o q _ e => k1 b o q e
  show wpAny _ A.in1 (updateSeq T (fun _ => #[v, v]) >>= _) _ _ _
  refine wpAny_bind (wpAny_updateSeq hx1 rfl ?_)
  rw [nm]
  refine wpAny_pure ⟨plainId_quiet F.plain_min_loop _, min_turns W hG hc hT (n - 1) 0 { s with heap := _, toks := tk } v _ (by omega) (W.frame _ _ _ st1 fun b hb2 o e => kk b o (fun q => hT (by rw [← q]; exact hb2)) e) (hG { s with heap := h1, toks := tk } _ tk g1 fun b o _ q e => kk b o q e)
    pv (Heap.get?_update_self _ hx1 rfl) fun v' h2 t2 p2 k2 => ?_⟩
  exact hr v' h2 t2 p2 fun b o q1 q2 e => k2 b o q1 q2 (kk b o q2 (k1 b o q1 e))
/-- min of the items that are walked -/
theorem min_walk {x : Value} {Q : Value → Shared → Prop} {E : Value → Shared → Prop} {s : Shared}
    (h : wpAny (model prog w) A.in1 (pyIter x) (fun it s2 => ∃ I fp wr n P St bt G, it = .ref I ∧ Walks prog w A.in1 I fp wr n P St ∧ St 0 s2.heap ∧ (∀ b ∈ fp, b < s2.heap.objs.size) ∧ 0 < n ∧ G s2 ∧
      (∀ (s : Shared) (h' : Heap) (tk : Nat), G s → (∀ b o, b < s2.heap.objs.size → b ∉ wr → s.heap.get? b = some o → h'.get? b = some o) → G { s with heap := h', toks := tk }) ∧ CmpG prog w A.in1 .Lt G P bt ∧
      ∀ v h' tk, P (argBest bt (n - 1)) v → (∀ b o, b ∉ wr → s2.heap.get? b = some o → h'.get? b = some o) → Q v { s2 with heap := h', toks := tk }) E s) :
    wpAny (model prog w) A (call (.builtin "min") [x]) Q E s := by
  have nm : (toString "min" ++ toString ".loop" : String) = "min.loop" := by decide
  refine call_function_tree F.kind_min F.plain_min F.entry_min (F.args_min1 _) ?_
  show wpAny _ A.in1 (Builtin.Builtins.bindParams "min" ["key", "default"] 0 ⟨[], []⟩ >>= _) _ _ s
  refine wpAny_bind (wpAny_of_eq (a := [none, none]) (by rfl) (wpAny_bind (wpAny_pure (wpAny_bind (wpAny_mono h (fun it s2 h2 => ?_) fun _ _ e => e)))))
  obtain ⟨I, fp, wr, n, P, St, bt, G, rfl, W, st, hfp, hn, g, hG, hc, hq⟩ := h2
  refine wpAny_bind (wpAny_newObj_type ?_)
  rw [nm]
  have lt : ∀ {b : Addr} {o : Obj}, s2.heap.get? b = some o → b ≠ s2.heap.objs.size := fun e => Nat.ne_of_lt (Heap.lt_size e)
  refine wpAny_pure ⟨plainId_quiet F.plain_min_loop _, min_first W (fun a b t ga k => hG a b t ga fun c o q1 q2 e => k c o q2 (Nat.ne_of_lt q1) e) hc (fun hm => Nat.lt_irrefl _ (hfp _ hm)) hn (W.frame _ _ _ st fun b _ o e => Heap.get?_push_of_some _ e)
    (hG _ _ s2.toks g fun b o _ _ e => Heap.get?_push_of_some _ e) (Heap.get?_push_size _ rfl) fun v h' tk pv k => ?_⟩
  exact hq v h' tk pv fun b o q e => k b o q (lt e) (Heap.get?_push_of_some _ e)

/-- min of 2 written values -/
theorem min_args2 {a b : Value} {Q : Value → Shared → Prop} {E : Value → Shared → Prop} {s : Shared}
    (h : wpAny (model prog w) A.in1 (pyIter (.ref s.heap.objs.size)) (fun it s2 => ∃ I fp wr n P St bt G, it = .ref I ∧ Walks prog w A.in1 I fp wr n P St ∧ St 0 s2.heap ∧ (∀ b ∈ fp, b < s2.heap.objs.size) ∧ 0 < n ∧ G s2 ∧
      (∀ (s : Shared) (h' : Heap) (tk : Nat), G s → (∀ b o, b < s2.heap.objs.size → b ∉ wr → s.heap.get? b = some o → h'.get? b = some o) → G { s with heap := h', toks := tk }) ∧ CmpG prog w A.in1 .Lt G P bt ∧
      ∀ v h' tk, P (argBest bt (n - 1)) v → (∀ b o, b ∉ wr → s2.heap.get? b = some o → h'.get? b = some o) → Q v { s2 with heap := h', toks := tk }) E
      { s with heap := s.heap.push { cls := .type "tuple", data := .seq #[a, b] } }) :
    wpAny (model prog w) A (call (.builtin "min") [a, b]) Q E s := by
  have nm : (toString "min" ++ toString ".loop" : String) = "min.loop" := by decide
  refine call_function_tree F.kind_min F.plain_min F.entry_min (by unfold argsOk; kernel_rfl) ?_
  show wpAny _ A.in1 (Builtin.Builtins.bindParams "min" ["key", "default"] 0 ⟨[], []⟩ >>= _) _ _ s
  refine wpAny_bind (wpAny_of_eq (a := [none, none]) (by rfl) ?_)
  show wpAny _ A.in1 (newTuple [a, b] >>= _) _ _ s
  refine wpAny_bind (wpAny_newObj_type (wpAny_bind (wpAny_mono h (fun it s2 h2 => ?_) fun _ _ e => e)))
  obtain ⟨I, fp, wr, n, P, St, bt, G, rfl, W, st, hfp, hn, g, hG, hc, hq⟩ := h2
  refine wpAny_bind (wpAny_newObj_type ?_)
  rw [nm]
  have lt : ∀ {b : Addr} {o : Obj}, s2.heap.get? b = some o → b ≠ s2.heap.objs.size := fun e => Nat.ne_of_lt (Heap.lt_size e)
  refine wpAny_pure ⟨plainId_quiet F.plain_min_loop _, min_first W (fun a b t ga k => hG a b t ga fun c o q1 q2 e => k c o q2 (Nat.ne_of_lt q1) e) hc (fun hm => Nat.lt_irrefl _ (hfp _ hm)) hn (W.frame _ _ _ st fun b _ o e => Heap.get?_push_of_some _ e)
    (hG _ _ s2.toks g fun b o _ _ e => Heap.get?_push_of_some _ e) (Heap.get?_push_size _ rfl) fun v h' tk pv k => ?_⟩
  exact hq v h' tk pv fun b o q e => k b o q (lt e) (Heap.get?_push_of_some _ e)

/-- min of 3 written values -/
theorem min_args3 {a b c : Value} {Q : Value → Shared → Prop} {E : Value → Shared → Prop} {s : Shared}
    (h : wpAny (model prog w) A.in1 (pyIter (.ref s.heap.objs.size)) (fun it s2 => ∃ I fp wr n P St bt G, it = .ref I ∧ Walks prog w A.in1 I fp wr n P St ∧ St 0 s2.heap ∧ (∀ b ∈ fp, b < s2.heap.objs.size) ∧ 0 < n ∧ G s2 ∧
      (∀ (s : Shared) (h' : Heap) (tk : Nat), G s → (∀ b o, b < s2.heap.objs.size → b ∉ wr → s.heap.get? b = some o → h'.get? b = some o) → G { s with heap := h', toks := tk }) ∧ CmpG prog w A.in1 .Lt G P bt ∧
      ∀ v h' tk, P (argBest bt (n - 1)) v → (∀ b o, b ∉ wr → s2.heap.get? b = some o → h'.get? b = some o) → Q v { s2 with heap := h', toks := tk }) E
      { s with heap := s.heap.push { cls := .type "tuple", data := .seq #[a, b, c] } }) :
    wpAny (model prog w) A (call (.builtin "min") [a, b, c]) Q E s := by
  have nm : (toString "min" ++ toString ".loop" : String) = "min.loop" := by decide
  refine call_function_tree F.kind_min F.plain_min F.entry_min (by unfold argsOk; kernel_rfl) ?_
  show wpAny _ A.in1 (Builtin.Builtins.bindParams "min" ["key", "default"] 0 ⟨[], []⟩ >>= _) _ _ s
  refine wpAny_bind (wpAny_of_eq (a := [none, none]) (by rfl) ?_)
  show wpAny _ A.in1 (newTuple [a, b, c] >>= _) _ _ s
  refine wpAny_bind (wpAny_newObj_type (wpAny_bind (wpAny_mono h (fun it s2 h2 => ?_) fun _ _ e => e)))
  obtain ⟨I, fp, wr, n, P, St, bt, G, rfl, W, st, hfp, hn, g, hG, hc, hq⟩ := h2
  refine wpAny_bind (wpAny_newObj_type ?_)
  rw [nm]
  have lt : ∀ {b : Addr} {o : Obj}, s2.heap.get? b = some o → b ≠ s2.heap.objs.size := fun e => Nat.ne_of_lt (Heap.lt_size e)
  refine wpAny_pure ⟨plainId_quiet F.plain_min_loop _, min_first W (fun a b t ga k => hG a b t ga fun c o q1 q2 e => k c o q2 (Nat.ne_of_lt q1) e) hc (fun hm => Nat.lt_irrefl _ (hfp _ hm)) hn (W.frame _ _ _ st fun b _ o e => Heap.get?_push_of_some _ e)
    (hG _ _ s2.toks g fun b o _ _ e => Heap.get?_push_of_some _ e) (Heap.get?_push_size _ rfl) fun v h' tk pv k => ?_⟩
  exact hq v h' tk pv fun b o q e => k b o q (lt e) (Heap.get?_push_of_some _ e)

/-- min of 4 written values -/
theorem min_args4 {a b c d : Value} {Q : Value → Shared → Prop} {E : Value → Shared → Prop} {s : Shared}
    (h : wpAny (model prog w) A.in1 (pyIter (.ref s.heap.objs.size)) (fun it s2 => ∃ I fp wr n P St bt G, it = .ref I ∧ Walks prog w A.in1 I fp wr n P St ∧ St 0 s2.heap ∧ (∀ b ∈ fp, b < s2.heap.objs.size) ∧ 0 < n ∧ G s2 ∧
      (∀ (s : Shared) (h' : Heap) (tk : Nat), G s → (∀ b o, b < s2.heap.objs.size → b ∉ wr → s.heap.get? b = some o → h'.get? b = some o) → G { s with heap := h', toks := tk }) ∧ CmpG prog w A.in1 .Lt G P bt ∧
      ∀ v h' tk, P (argBest bt (n - 1)) v → (∀ b o, b ∉ wr → s2.heap.get? b = some o → h'.get? b = some o) → Q v { s2 with heap := h', toks := tk }) E
      { s with heap := s.heap.push { cls := .type "tuple", data := .seq #[a, b, c, d] } }) :
    wpAny (model prog w) A (call (.builtin "min") [a, b, c, d]) Q E s := by
  have nm : (toString "min" ++ toString ".loop" : String) = "min.loop" := by decide
  refine call_function_tree F.kind_min F.plain_min F.entry_min (by unfold argsOk; kernel_rfl) ?_
  show wpAny _ A.in1 (Builtin.Builtins.bindParams "min" ["key", "default"] 0 ⟨[], []⟩ >>= _) _ _ s
  refine wpAny_bind (wpAny_of_eq (a := [none, none]) (by rfl) ?_)
  show wpAny _ A.in1 (newTuple [a, b, c, d] >>= _) _ _ s
  refine wpAny_bind (wpAny_newObj_type (wpAny_bind (wpAny_mono h (fun it s2 h2 => ?_) fun _ _ e => e)))
  obtain ⟨I, fp, wr, n, P, St, bt, G, rfl, W, st, hfp, hn, g, hG, hc, hq⟩ := h2
  refine wpAny_bind (wpAny_newObj_type ?_)
  rw [nm]
  have lt : ∀ {b : Addr} {o : Obj}, s2.heap.get? b = some o → b ≠ s2.heap.objs.size := fun e => Nat.ne_of_lt (Heap.lt_size e)
  refine wpAny_pure ⟨plainId_quiet F.plain_min_loop _, min_first W (fun a b t ga k => hG a b t ga fun c o q1 q2 e => k c o q2 (Nat.ne_of_lt q1) e) hc (fun hm => Nat.lt_irrefl _ (hfp _ hm)) hn (W.frame _ _ _ st fun b _ o e => Heap.get?_push_of_some _ e)
    (hG _ _ s2.toks g fun b o _ _ e => Heap.get?_push_of_some _ e) (Heap.get?_push_size _ rfl) fun v h' tk pv k => ?_⟩
  exact hq v h' tk pv fun b o q e => k b o q (lt e) (Heap.get?_push_of_some _ e)

/-! #### max: the running best, with what is known of the heap kept -/
theorem max_turns (W : Walks prog w A.in1 I fp wr n P St) (hG : ∀ (s : Shared) (h' : Heap) (tk : Nat), G s → Kp wr T s.heap h' → G { s with heap := h', toks := tk }) (hc : CmpG prog w A.in1 .Gt G P bt) (hT : T ∉ fp) :
    ∀ (k j : Nat) (s : Shared) (x : Value) (c : Nat), n = j + 1 + k → St (j + 1) s.heap → G s → P (argBest bt j) x → s.heap.get? T = some (two x c) →
      (∀ v h' tk, P (argBest bt (n - 1)) v → Kp wr T s.heap h' → R (.ok (.ret v)) { s with heap := h', toks := tk }) →
      codeAny (model prog w) A (.builtin "max.loop" ⟨[.ref I, .none, .ref T], []⟩) R s := by
  have hw : T ∉ wr := fun q => hT (W.sub _ q)
  have nm : (toString "max" ++ toString ".loop" : String) = "max.loop" := by decide
  intro k
  induction k with
  | zero =>
    intro j s x c en st g px hx hr
    refine codeAny_builtin F.entry_max_loop (A := A) ?_
    rw [Around.under_plainId F.plain_max_loop _]
    show wpAny _ A.in1 (seqItems? (.ref T) >>= _) _ _ s
    refine wpAny_bind (wpAny_seqItems hx rfl (A := A.in1) ?_)
    show wpAny _ A.in1 (tryCatch (pyNext (.ref I)) _ >>= _) _ _ s
    refine wpAny_bind (wpAny_tryCatch (W.done s _ _ (by rw [en]; exact st) fun h1 tk k1 => ?_))
    have hx1 := k1 T _ hw hx
    show wpAny _ A.in1 (updateSeq T (fun _ => #[]) >>= _) _ _ _
    refine wpAny_bind (wpAny_updateSeq hx1 rfl (wpAny_bind (wpAny_letGo (wpAny_pure ?_))))
    exact hr x _ tk (by rw [en]; exact px) fun b o h1 h2 e => (Heap.get?_update_other _ _ (Ne.symm h2)).trans (k1 b o h1 e)
  | succ k ih =>
    intro j s x c en st g px hx hr
    refine codeAny_builtin F.entry_max_loop (A := A) ?_
    rw [Around.under_plainId F.plain_max_loop _]
    show wpAny _ A.in1 (seqItems? (.ref T) >>= _) _ _ s
    refine wpAny_bind (wpAny_seqItems hx rfl (A := A.in1) ?_)
    show wpAny _ A.in1 (tryCatch (pyNext (.ref I)) _ >>= _) _ _ s
    refine wpAny_bind (wpAny_tryCatch (W.item (j + 1) s _ _ (by omega) st fun v h1 tk pv st1 k1 => ?_))
    have hx1 := k1 T _ hw hx
    have g1 : G { s with heap := h1, toks := tk } := hG _ _ tk g fun b o q _ e => k1 b o q e
    show wpAny _ A.in1 (tryCatch (holding [v, v] (richCompare .Gt v x >>= _)) _ >>= _) _ _ _
    refine wpAny_bind (wpAny_tryCatch (wpAny_holding (wpAny_bind (hc (j + 1) (argBest bt j) v x { s with heap := h1, toks := tk } _ _ g1 pv px ?_))))
    refine wpAny_bind (wpAny_holding (wpAny_truthy_bool (wpAny_bind (wpAny_letGo (wpAny_pure ?_)))))
    cases hb : bt (j + 1) (argBest bt j) with
    | false =>
      simp only [Bool.false_eq_true, if_false]
      refine wpAny_bind (wpAny_letGo ?_)
      rw [nm]
      refine wpAny_pure ⟨plainId_quiet F.plain_max_loop _, ih (j + 1) { s with heap := h1, toks := tk } x c (by omega) st1 g1 (by simp only [argBest, hb, Bool.false_eq_true, if_false]; exact px) hx1 fun v' h2 t2 p2 k2 => ?_⟩
      exact hr v' h2 t2 p2 fun b o q1 q2 e => k2 b o q1 q2 (k1 b o q1 e)
    | true =>
      simp only [if_true]
      refine wpAny_bind (wpAny_updateSeq hx1 rfl (wpAny_bind (wpAny_letGo ?_)))
      rw [nm]
      have kk : ∀ b o, b ≠ T → h1.get? b = some o → (h1.update T (Obj.mapSeq fun _ => #[v, v])).get? b = some o := fun b o q e => (Heap.get?_update_other _ _ (Ne.symm q)).trans e
      refine wpAny_pure ⟨plainId_quiet F.plain_max_loop _, ih (j + 1) { s with heap := _, toks := tk } v _ (by omega) (W.frame _ _ _ st1 fun b hb2 o e => kk b o (fun q => hT (by rw [← q]; exact hb2)) e) (hG { s with heap := h1, toks := tk } _ tk g1 fun b o _ q e => kk b o q e)
        (by simp only [argBest, hb, if_true]; exact pv) (Heap.get?_update_self _ hx1 rfl) fun v' h2 t2 p2 k2 => ?_⟩
      exact hr v' h2 t2 p2 fun b o q1 q2 e => k2 b o q1 q2 (kk b o q2 (k1 b o q1 e))
theorem max_first (W : Walks prog w A.in1 I fp wr n P St) (hG : ∀ (s : Shared) (h' : Heap) (tk : Nat), G s → Kp wr T s.heap h' → G { s with heap := h', toks := tk }) (hc : CmpG prog w A.in1 .Gt G P bt) (hT : T ∉ fp) (hn : 0 < n) {s : Shared} {c : Nat}
    (st : St 0 s.heap) (g : G s) (hx : s.heap.get? T = some { cls := .type "list", dict := none, data := .seq #[] c, slots := #[] })
    (hr : ∀ v h' tk, P (argBest bt (n - 1)) v → Kp wr T s.heap h' → R (.ok (.ret v)) { s with heap := h', toks := tk }) :
    codeAny (model prog w) A (.builtin "max.loop" ⟨[.ref I, .none, .ref T], []⟩) R s := by
  have hw : T ∉ wr := fun q => hT (W.sub _ q)
  have nm : (toString "max" ++ toString ".loop" : String) = "max.loop" := by decide
  refine codeAny_builtin F.entry_max_loop (A := A) ?_
  rw [Around.under_plainId F.plain_max_loop _]
  show wpAny _ A.in1 (seqItems? (.ref T) >>= _) _ _ s
  refine wpAny_bind (wpAny_seqItems hx rfl (A := A.in1) ?_)
  show wpAny _ A.in1 (tryCatch (pyNext (.ref I)) _ >>= _) _ _ s
  refine wpAny_bind (wpAny_tryCatch (W.item 0 s _ _ hn st fun v h1 tk pv st1 k1 => ?_))
  have hx1 := k1 T _ hw hx
  have kk : ∀ b o, b ≠ T → h1.get? b = some o → (h1.update T (Obj.mapSeq fun _ => #[v, v])).get? b = some o := fun b o q e => (Heap.get?_update_other _ _ (Ne.symm q)).trans e
  have g1 : G { s with heap := h1, toks := tk } := hG _ _ tk g fun b o q _ e => k1 b o q e
  show wpAny _ A.in1 (updateSeq T (fun _ => #[v, v]) >>= _) _ _ _
  refine wpAny_bind (wpAny_updateSeq hx1 rfl ?_)
  rw [nm]
  refine wpAny_pure ⟨plainId_quiet F.plain_max_loop _, max_turns W hG hc hT (n - 1) 0 { s with heap := _, toks := tk } v _ (by omega) (W.frame _ _ _ st1 fun b hb2 o e => kk b o (fun q => hT (by rw [← q]; exact hb2)) e) (hG { s with heap := h1, toks := tk } _ tk g1 fun b o _ q e => kk b o q e)
    pv (Heap.get?_update_self _ hx1 rfl) fun v' h2 t2 p2 k2 => ?_⟩
  exact hr v' h2 t2 p2 fun b o q1 q2 e => k2 b o q1 q2 (kk b o q2 (k1 b o q1 e))
/-- max of the items that are walked -/
theorem max_walk {x : Value} {Q : Value → Shared → Prop} {E : Value → Shared → Prop} {s : Shared}
    (h : wpAny (model prog w) A.in1 (pyIter x) (fun it s2 => ∃ I fp wr n P St bt G, it = .ref I ∧ Walks prog w A.in1 I fp wr n P St ∧ St 0 s2.heap ∧ (∀ b ∈ fp, b < s2.heap.objs.size) ∧ 0 < n ∧ G s2 ∧
      (∀ (s : Shared) (h' : Heap) (tk : Nat), G s → (∀ b o, b < s2.heap.objs.size → b ∉ wr → s.heap.get? b = some o → h'.get? b = some o) → G { s with heap := h', toks := tk }) ∧ CmpG prog w A.in1 .Gt G P bt ∧
      ∀ v h' tk, P (argBest bt (n - 1)) v → (∀ b o, b ∉ wr → s2.heap.get? b = some o → h'.get? b = some o) → Q v { s2 with heap := h', toks := tk }) E s) :
    wpAny (model prog w) A (call (.builtin "max") [x]) Q E s := by
  have nm : (toString "max" ++ toString ".loop" : String) = "max.loop" := by decide
  refine call_function_tree F.kind_max F.plain_max F.entry_max (F.args_max1 _) ?_
  show wpAny _ A.in1 (Builtin.Builtins.bindParams "max" ["key", "default"] 0 ⟨[], []⟩ >>= _) _ _ s
  refine wpAny_bind (wpAny_of_eq (a := [none, none]) (by rfl) (wpAny_bind (wpAny_pure (wpAny_bind (wpAny_mono h (fun it s2 h2 => ?_) fun _ _ e => e)))))
  obtain ⟨I, fp, wr, n, P, St, bt, G, rfl, W, st, hfp, hn, g, hG, hc, hq⟩ := h2
  refine wpAny_bind (wpAny_newObj_type ?_)
  rw [nm]
  have lt : ∀ {b : Addr} {o : Obj}, s2.heap.get? b = some o → b ≠ s2.heap.objs.size := fun e => Nat.ne_of_lt (Heap.lt_size e)
  refine wpAny_pure ⟨plainId_quiet F.plain_max_loop _, max_first W (fun a b t ga k => hG a b t ga fun c o q1 q2 e => k c o q2 (Nat.ne_of_lt q1) e) hc (fun hm => Nat.lt_irrefl _ (hfp _ hm)) hn (W.frame _ _ _ st fun b _ o e => Heap.get?_push_of_some _ e)
    (hG _ _ s2.toks g fun b o _ _ e => Heap.get?_push_of_some _ e) (Heap.get?_push_size _ rfl) fun v h' tk pv k => ?_⟩
  exact hq v h' tk pv fun b o q e => k b o q (lt e) (Heap.get?_push_of_some _ e)

/-- max of 2 written values -/
theorem max_args2 {a b : Value} {Q : Value → Shared → Prop} {E : Value → Shared → Prop} {s : Shared}
    (h : wpAny (model prog w) A.in1 (pyIter (.ref s.heap.objs.size)) (fun it s2 => ∃ I fp wr n P St bt G, it = .ref I ∧ Walks prog w A.in1 I fp wr n P St ∧ St 0 s2.heap ∧ (∀ b ∈ fp, b < s2.heap.objs.size) ∧ 0 < n ∧ G s2 ∧
      (∀ (s : Shared) (h' : Heap) (tk : Nat), G s → (∀ b o, b < s2.heap.objs.size → b ∉ wr → s.heap.get? b = some o → h'.get? b = some o) → G { s with heap := h', toks := tk }) ∧ CmpG prog w A.in1 .Gt G P bt ∧
      ∀ v h' tk, P (argBest bt (n - 1)) v → (∀ b o, b ∉ wr → s2.heap.get? b = some o → h'.get? b = some o) → Q v { s2 with heap := h', toks := tk }) E
      { s with heap := s.heap.push { cls := .type "tuple", data := .seq #[a, b] } }) :
    wpAny (model prog w) A (call (.builtin "max") [a, b]) Q E s := by
  have nm : (toString "max" ++ toString ".loop" : String) = "max.loop" := by decide
  refine call_function_tree F.kind_max F.plain_max F.entry_max (by unfold argsOk; kernel_rfl) ?_
  show wpAny _ A.in1 (Builtin.Builtins.bindParams "max" ["key", "default"] 0 ⟨[], []⟩ >>= _) _ _ s
  refine wpAny_bind (wpAny_of_eq (a := [none, none]) (by rfl) ?_)
  show wpAny _ A.in1 (newTuple [a, b] >>= _) _ _ s
  refine wpAny_bind (wpAny_newObj_type (wpAny_bind (wpAny_mono h (fun it s2 h2 => ?_) fun _ _ e => e)))
  obtain ⟨I, fp, wr, n, P, St, bt, G, rfl, W, st, hfp, hn, g, hG, hc, hq⟩ := h2
  refine wpAny_bind (wpAny_newObj_type ?_)
  rw [nm]
  have lt : ∀ {b : Addr} {o : Obj}, s2.heap.get? b = some o → b ≠ s2.heap.objs.size := fun e => Nat.ne_of_lt (Heap.lt_size e)
  refine wpAny_pure ⟨plainId_quiet F.plain_max_loop _, max_first W (fun a b t ga k => hG a b t ga fun c o q1 q2 e => k c o q2 (Nat.ne_of_lt q1) e) hc (fun hm => Nat.lt_irrefl _ (hfp _ hm)) hn (W.frame _ _ _ st fun b _ o e => Heap.get?_push_of_some _ e)
    (hG _ _ s2.toks g fun b o _ _ e => Heap.get?_push_of_some _ e) (Heap.get?_push_size _ rfl) fun v h' tk pv k => ?_⟩
  exact hq v h' tk pv fun b o q e => k b o q (lt e) (Heap.get?_push_of_some _ e)

/-- max of 3 written values -/
theorem max_args3 {a b c : Value} {Q : Value → Shared → Prop} {E : Value → Shared → Prop} {s : Shared}
    (h : wpAny (model prog w) A.in1 (pyIter (.ref s.heap.objs.size)) (fun it s2 => ∃ I fp wr n P St bt G, it = .ref I ∧ Walks prog w A.in1 I fp wr n P St ∧ St 0 s2.heap ∧ (∀ b ∈ fp, b < s2.heap.objs.size) ∧ 0 < n ∧ G s2 ∧
      (∀ (s : Shared) (h' : Heap) (tk : Nat), G s → (∀ b o, b < s2.heap.objs.size → b ∉ wr → s.heap.get? b = some o → h'.get? b = some o) → G { s with heap := h', toks := tk }) ∧ CmpG prog w A.in1 .Gt G P bt ∧
      ∀ v h' tk, P (argBest bt (n - 1)) v → (∀ b o, b ∉ wr → s2.heap.get? b = some o → h'.get? b = some o) → Q v { s2 with heap := h', toks := tk }) E
      { s with heap := s.heap.push { cls := .type "tuple", data := .seq #[a, b, c] } }) :
    wpAny (model prog w) A (call (.builtin "max") [a, b, c]) Q E s := by
  have nm : (toString "max" ++ toString ".loop" : String) = "max.loop" := by decide
  refine call_function_tree F.kind_max F.plain_max F.entry_max (by unfold argsOk; kernel_rfl) ?_
  show wpAny _ A.in1 (Builtin.Builtins.bindParams "max" ["key", "default"] 0 ⟨[], []⟩ >>= _) _ _ s
  refine wpAny_bind (wpAny_of_eq (a := [none, none]) (by rfl) ?_)
  show wpAny _ A.in1 (newTuple [a, b, c] >>= _) _ _ s
  refine wpAny_bind (wpAny_newObj_type (wpAny_bind (wpAny_mono h (fun it s2 h2 => ?_) fun _ _ e => e)))
  obtain ⟨I, fp, wr, n, P, St, bt, G, rfl, W, st, hfp, hn, g, hG, hc, hq⟩ := h2
  refine wpAny_bind (wpAny_newObj_type ?_)
  rw [nm]
  have lt : ∀ {b : Addr} {o : Obj}, s2.heap.get? b = some o → b ≠ s2.heap.objs.size := fun e => Nat.ne_of_lt (Heap.lt_size e)
  refine wpAny_pure ⟨plainId_quiet F.plain_max_loop _, max_first W (fun a b t ga k => hG a b t ga fun c o q1 q2 e => k c o q2 (Nat.ne_of_lt q1) e) hc (fun hm => Nat.lt_irrefl _ (hfp _ hm)) hn (W.frame _ _ _ st fun b _ o e => Heap.get?_push_of_some _ e)
    (hG _ _ s2.toks g fun b o _ _ e => Heap.get?_push_of_some _ e) (Heap.get?_push_size _ rfl) fun v h' tk pv k => ?_⟩
  exact hq v h' tk pv fun b o q e => k b o q (lt e) (Heap.get?_push_of_some _ e)

/-- max of 4 written values -/
theorem max_args4 {a b c d : Value} {Q : Value → Shared → Prop} {E : Value → Shared → Prop} {s : Shared}
    (h : wpAny (model prog w) A.in1 (pyIter (.ref s.heap.objs.size)) (fun it s2 => ∃ I fp wr n P St bt G, it = .ref I ∧ Walks prog w A.in1 I fp wr n P St ∧ St 0 s2.heap ∧ (∀ b ∈ fp, b < s2.heap.objs.size) ∧ 0 < n ∧ G s2 ∧
      (∀ (s : Shared) (h' : Heap) (tk : Nat), G s → (∀ b o, b < s2.heap.objs.size → b ∉ wr → s.heap.get? b = some o → h'.get? b = some o) → G { s with heap := h', toks := tk }) ∧ CmpG prog w A.in1 .Gt G P bt ∧
      ∀ v h' tk, P (argBest bt (n - 1)) v → (∀ b o, b ∉ wr → s2.heap.get? b = some o → h'.get? b = some o) → Q v { s2 with heap := h', toks := tk }) E
      { s with heap := s.heap.push { cls := .type "tuple", data := .seq #[a, b, c, d] } }) :
    wpAny (model prog w) A (call (.builtin "max") [a, b, c, d]) Q E s := by
  have nm : (toString "max" ++ toString ".loop" : String) = "max.loop" := by decide
  refine call_function_tree F.kind_max F.plain_max F.entry_max (by unfold argsOk; kernel_rfl) ?_
  show wpAny _ A.in1 (Builtin.Builtins.bindParams "max" ["key", "default"] 0 ⟨[], []⟩ >>= _) _ _ s
  refine wpAny_bind (wpAny_of_eq (a := [none, none]) (by rfl) ?_)
  show wpAny _ A.in1 (newTuple [a, b, c, d] >>= _) _ _ s
  refine wpAny_bind (wpAny_newObj_type (wpAny_bind (wpAny_mono h (fun it s2 h2 => ?_) fun _ _ e => e)))
  obtain ⟨I, fp, wr, n, P, St, bt, G, rfl, W, st, hfp, hn, g, hG, hc, hq⟩ := h2
  refine wpAny_bind (wpAny_newObj_type ?_)
  rw [nm]
  have lt : ∀ {b : Addr} {o : Obj}, s2.heap.get? b = some o → b ≠ s2.heap.objs.size := fun e => Nat.ne_of_lt (Heap.lt_size e)
  refine wpAny_pure ⟨plainId_quiet F.plain_max_loop _, max_first W (fun a b t ga k => hG a b t ga fun c o q1 q2 e => k c o q2 (Nat.ne_of_lt q1) e) hc (fun hm => Nat.lt_irrefl _ (hfp _ hm)) hn (W.frame _ _ _ st fun b _ o e => Heap.get?_push_of_some _ e)
    (hG _ _ s2.toks g fun b o _ _ e => Heap.get?_push_of_some _ e) (Heap.get?_push_size _ rfl) fun v h' tk pv k => ?_⟩
  exact hq v h' tk pv fun b o q e => k b o q (lt e) (Heap.get?_push_of_some _ e)
end
end NL

namespace NL
open PySem PySem.Spec PyProof.Rows L2
/-! ### min, max -/
def ofD (d : Option D) : M D := match d with
  | some d => pure d
  | none => die
def bestD (o : Cop) (xs : List D) : Option D :=
  if (xs.all fun x => xs.all fun y => (ordD o 12 x y).isSome) = true then xs[argBest (fun i j => (ordD o 12 (xs.getD i .non) (xs.getD j .non)).getD false) (xs.length - 1)]? else none
def mnD (o : Cop) : List D → M D
  | [.ref l] => getL l >>= fun xs => ofD (bestD o xs)
  | [.tup xs] => ofD (bestD o xs)
  | [a, b] => ofD (bestD o [a, b])
  | [a, b, c] => ofD (bestD o [a, b, c])
  | [a, b, c, d] => ofD (bestD o [a, b, c, d])
  | _ => die
/-- later states of s: all kept -/
def Lat (s : Shared) (s' : Shared) : Prop := ∃ h' tk, s' = { s with heap := h', toks := tk } ∧ ∀ b o, s.heap.get? b = some o → h'.get? b = some o
section
variable {X : Cx} {pins : List (Addr × Obj)} {σ : L2.St} {H : Hp} {s : Shared} {m : List Addr} {S : Store}
abbrev btOf (o : Cop) (xs : List D) : Nat → Nat → Bool := fun i j => (ordD o 12 (xs.getD i .non) (xs.getD j .non)).getD false
theorem mm_core (hu : X.A.units + 27 < cLine) (I : Inv X pins σ H s) (sr : SR X.K m S H) {o : Cop} (ho : o = .lt ∨ o = .le ∨ o = .gt ∨ o = .ge) {xs : List D} {vs : List V} {its : List Value} (rs : Reps m H xs vs) (rv : Vals vs its)
    (hall : (xs.all fun x => xs.all fun y => (ordD o 12 x y).isSome) = true) : CmpG X.prog X.w X.A.in1 o.op (Lat s) (fun i v => its.toArray[i]? = some v) (btOf o xs) := by
  intro i j x y s' Q E hG hx hy hQ
  obtain ⟨h', tk, rfl, k⟩ := hG
  have I' : Inv X pins σ H { s with heap := h', toks := tk } := I.kept k
  have at_ : ∀ {i : Nat} {x : Value}, its.toArray[i]? = some x → ∃ d v, xs[i]? = some d ∧ Rep m H d v ∧ RelV v x := fun {i x} h => by
    have hl : i < its.length := by simpa using (Array.getElem?_eq_some_iff.mp h).1
    have h' : its[i]? = some x := by simpa using h
    have hl2 : i < xs.length := by rw [rs.length, rv.length]; exact hl
    obtain ⟨v, h1, h2⟩ := rs.get (List.getElem?_eq_getElem hl2)
    obtain ⟨u, h3, h4⟩ := rv.get h1
    rw [h'] at h3
    cases h3
    exact ⟨_, v, List.getElem?_eq_getElem hl2, h2, h4⟩
  obtain ⟨d, v, d1, d2, d3⟩ := at_ hx
  obtain ⟨e, w, e1, e2, e3⟩ := at_ hy
  rw [List.all_eq_true] at hall
  have q := hall d (List.mem_of_getElem? d1)
  rw [List.all_eq_true] at q
  obtain ⟨b, hb⟩ := Option.isSome_iff_exists.mp (q e (List.mem_of_getElem? e1))
  have hbt : btOf o xs i j = b := by
    show (ordD o 12 (xs.getD i .non) (xs.getD j .non)).getD false = b
    rw [List.getD_eq_getElem?_getD, List.getD_eq_getElem?_getD, d1, e1]
    show (ordD o 12 d e).getD false = b
    rw [hb]; rfl
  rw [hbt] at hQ
  exact ord_rc I' sr ho 12 d e b v w x y X.A.in1 hb d2 e2 d3 e3 (by show X.A.units + 1 + 12 + 14 < cLine; omega) X.prog X.w E Q hQ
theorem best_some {o : Cop} {xs : List D} {d : D} (h : bestD o xs = some d) : (xs.all fun x => xs.all fun y => (ordD o 12 x y).isSome) = true ∧ xs[argBest (btOf o xs) (xs.length - 1)]? = some d := by
  unfold bestD at h
  split at h
  · rename_i hc; exact ⟨hc, h⟩
  · cases h
theorem ofD_some {Ex : Str → Option Nat → List Addr → Store → Hp → Prop} {K : PySem.W.Frag} {b : Option D} {F : D → List Addr → Store → Hp → Prop} (h : post K Ex m H (ofD b S) F) : ∃ c, b = some c ∧ post K Ex m H (.ok c S) F := by
  cases b with
  | none => exact h.elim
  | some c => exact ⟨c, rfl, h⟩
/-- behind the walk: the value that stands there -/
theorem best_end {Ex : Str → Option Nat → List Addr → Store → Hp → Prop} (I : Inv X pins σ H s) (sr : SR X.K m S H) {Q : VK} {o : Cop} {xs : List D} {vs : List V} {its : List Value} {d : D} (rs : Reps m H xs vs) (rv : Vals vs its) (hd : xs[argBest (btOf o xs) (xs.length - 1)]? = some d)
    (h : post X.K Ex m H (.ok d S) (fun d m' _ H' => ∀ w, Rep m' H' d w → Q w H')) {v : Value} {h' : Heap} {tk : Nat} (hv : its.toArray[argBest (btOf o xs) (its.toArray.size - 1)]? = some v) (k : ∀ b o, s.heap.get? b = some o → h'.get? b = some o) :
    EP X pins σ Q v { s with heap := h', toks := tk } := by
  have n : its.toArray.size = xs.length := by rw [List.size_toArray, ← rv.length, rs.length]
  rw [n] at hv
  obtain ⟨w, h1, h2⟩ := rs.get hd
  obtain ⟨u, h3, h4⟩ := rv.get h1
  have hv' : its[argBest (btOf o xs) (xs.length - 1)]? = some v := by simpa using hv
  rw [hv'] at h3
  cases h3
  exact ⟨w, H, I.kept k, h4, post_val sr h h2⟩
end
/-- a call by what the arguments are in the store -/
def rCD (K : PySem.W.Frag) (g : List D → M D) : List V → Hp → VK → Prop := fun vs H Q => ∃ Ex m S ds, SR K m S H ∧ Reps m H ds vs ∧ post K Ex m H (g ds S) (fun d m' _ H' => ∀ w, Rep m' H' d w → Q w H')
theorem push_lt {h : Heap} {o : Obj} {b : Addr} (hb : b < h.objs.size) : b < (h.push o).objs.size := by rw [Heap.size_push]; exact Nat.lt_succ_of_lt hb
theorem push_top {h : Heap} {o : Obj} : h.objs.size < (h.push o).objs.size := by rw [Heap.size_push]; exact Nat.lt_succ_self _
section
variable {X : Cx}
/-- min of one list or tuple -/
theorem min_one (hc : X.calm = true) (hu : X.A.units + 27 < cLine) {Ex : Str → Option Nat → List Addr → Store → Hp → Prop} {pins : List (Addr × Obj)} {σ : L2.St} {H : Hp} {s : Shared} {m : List Addr} {S : Store} {Q : VK} {xs : List D} {vs : List V} {its : List Value} {d : D} {a : Addr} (I : Inv X pins σ H s) (sr : SR X.K m S H)
    (rs : Reps m H xs vs) (rv : Vals vs its) (hs : s.heap.IsList a its.toArray ∨ s.heap.IsTuple a its.toArray) (hb : bestD .lt xs = some d)
    (h : post X.K Ex m H (.ok d S) (fun d m' _ H' => ∀ w, Rep m' H' d w → Q w H')) : wpAny (model X.prog X.w) X.A (call (.builtin "min") [.ref a]) (EP X pins σ Q) X.xe s := by
  obtain ⟨hall, hd⟩ := best_some hb
  have hn : 0 < its.toArray.size := by
    have n : its.toArray.size = xs.length := by rw [List.size_toArray, ← rv.length, rs.length]
    have := (List.getElem?_eq_some_iff.mp hd).1
    omega
  have cmp := mm_core hu I sr (o := .lt) (by decide) rs rv hall
  refine min_walk ?_
  have ne : ∀ {b : Addr} {o : Obj}, s.heap.get? b = some o → b ≠ s.heap.objs.size := fun e => Nat.ne_of_lt (Heap.lt_size e)
  have clo : ∀ {x : Obj} (s' : Shared) (h' : Heap) (tk : Nat), Lat s s' → (∀ b o, b < (s.heap.push x).objs.size → b ∉ [s.heap.objs.size] → s'.heap.get? b = some o → h'.get? b = some o) → Lat s { s' with heap := h', toks := tk } := fun {x} s' h' tk hl k => by
    obtain ⟨h1, t1, rfl, k1⟩ := hl
    exact ⟨h', tk, rfl, fun b o e => k b o (push_lt (Heap.lt_size e)) (by simpa using ne e) (k1 b o e)⟩
  have fin : ∀ {x : Obj} (v : Value) (h' : Heap) (tk : Nat), its.toArray[argBest (btOf .lt xs) (its.toArray.size - 1)]? = some v → (∀ b o, b ∉ [s.heap.objs.size] → (s.heap.push x).get? b = some o → h'.get? b = some o) → EP X pins σ Q v { s with heap := h', toks := tk } := fun {x} v h' tk hv k =>
    best_end I sr rs rv hd h hv fun b o e => k b o (by simpa using ne e) (Heap.get?_push_of_some _ e)
  rcases hs with hs | hs
  · have hlt : a < s.heap.objs.size := by obtain ⟨_, e, _⟩ := hs; exact Heap.lt_size e
    refine wpAny_pyIter_list hs ?_
    refine ⟨s.heap.objs.size, [s.heap.objs.size, a], [s.heap.objs.size], _, _, _, btOf .lt xs, Lat s, rfl, Walks.list (A := X.A.in1) (I.ok.hd hc) _ a (Nat.ne_of_lt hlt) its.toArray, ⟨⟨_, Heap.get?_push_size _ rfl, rfl, rfl⟩, hs.push _⟩, fun b hb => ?_, hn, ⟨_, s.toks, rfl, fun b o e => Heap.get?_push_of_some _ e⟩, clo, cmp, fin⟩
    rcases List.mem_cons.mp hb with rfl | hb
    · exact push_top
    · rw [List.mem_singleton.mp hb]; exact push_lt hlt
  · have hlt : a < s.heap.objs.size := by obtain ⟨_, e, _⟩ := hs; exact Heap.lt_size e
    refine wpAny_pyIter_tuple hs ?_
    refine ⟨s.heap.objs.size, [s.heap.objs.size, a], [s.heap.objs.size], _, _, _, btOf .lt xs, Lat s, rfl, Walks.tuple (A := X.A.in1) (I.ok.hd hc) _ a (Nat.ne_of_lt hlt) its.toArray, ⟨⟨_, Heap.get?_push_size _ rfl, rfl, rfl⟩, hs.push _⟩, fun b hb => ?_, hn, ⟨_, s.toks, rfl, fun b o e => Heap.get?_push_of_some _ e⟩, clo, cmp, fin⟩
    rcases List.mem_cons.mp hb with rfl | hb
    · exact push_top
    · rw [List.mem_singleton.mp hb]; exact push_lt hlt
theorem min_of_2 (hc : X.calm = true) (hu : X.A.units + 27 < cLine) {Ex : Str → Option Nat → List Addr → Store → Hp → Prop} {pins : List (Addr × Obj)} {σ : L2.St} {H : Hp} {s : Shared} {m : List Addr} {S : Store} {Q : VK} {xs : List D} {vs : List V} {a b : Value} {d : D} (I : Inv X pins σ H s) (sr : SR X.K m S H)
    (rs : Reps m H xs vs) (rv : Vals vs [a, b]) (hb : bestD .lt xs = some d)
    (h : post X.K Ex m H (.ok d S) (fun d m' _ H' => ∀ w, Rep m' H' d w → Q w H')) : wpAny (model X.prog X.w) X.A (call (.builtin "min") [a, b]) (EP X pins σ Q) X.xe s := by
  obtain ⟨hall, hd⟩ := best_some hb
  have cmp := mm_core hu I sr (o := .lt) (by decide) rs rv hall
  have hs : (s.heap.push { cls := .type "tuple", data := .seq #[a, b] }).IsTuple s.heap.objs.size [a, b].toArray := ⟨_, Heap.get?_push_size _ rfl, rfl, _, rfl⟩
  have ne : ∀ {b : Addr} {o : Obj}, s.heap.get? b = some o → b ≠ s.heap.objs.size := fun e => Nat.ne_of_lt (Heap.lt_size e)
  refine min_args2 (wpAny_pyIter_tuple hs ?_)
  refine ⟨_, [_, s.heap.objs.size], [_], _, _, _, btOf .lt xs, Lat s, rfl, Walks.tuple (A := X.A.in1) (I.ok.hd hc) _ s.heap.objs.size (Nat.ne_of_lt push_top) [a, b].toArray, ⟨⟨_, Heap.get?_push_size _ rfl, rfl, rfl⟩, hs.push _⟩, fun b hb => ?_, (by simp), ⟨_, s.toks, rfl, fun b o e => Heap.get?_push_of_some _ (Heap.get?_push_of_some _ e)⟩, fun s' h' tk hl k => ?_, cmp, fun v h' tk hv k => ?_⟩
  · rcases List.mem_cons.mp hb with rfl | hb
    · exact push_top
    · rw [List.mem_singleton.mp hb]; exact push_lt push_top
  · obtain ⟨h1, t1, rfl, k1⟩ := hl
    refine ⟨h', tk, rfl, fun b o e => k b o (push_lt (push_lt (Heap.lt_size e))) ?_ (k1 b o e)⟩
    have h1 := Heap.lt_size e
    intro hm
    rw [List.mem_singleton.mp hm, Heap.size_push] at h1
    exact Nat.lt_irrefl _ (Nat.lt_of_succ_lt h1)
  · refine best_end I sr rs rv hd h hv fun b o e => k b o ?_ (Heap.get?_push_of_some _ (Heap.get?_push_of_some _ e))
    have h1 := Heap.lt_size e
    intro hm
    rw [List.mem_singleton.mp hm, Heap.size_push] at h1
    exact Nat.lt_irrefl _ (Nat.lt_of_succ_lt h1)
theorem min_of_3 (hc : X.calm = true) (hu : X.A.units + 27 < cLine) {Ex : Str → Option Nat → List Addr → Store → Hp → Prop} {pins : List (Addr × Obj)} {σ : L2.St} {H : Hp} {s : Shared} {m : List Addr} {S : Store} {Q : VK} {xs : List D} {vs : List V} {a b c : Value} {d : D} (I : Inv X pins σ H s) (sr : SR X.K m S H)
    (rs : Reps m H xs vs) (rv : Vals vs [a, b, c]) (hb : bestD .lt xs = some d)
    (h : post X.K Ex m H (.ok d S) (fun d m' _ H' => ∀ w, Rep m' H' d w → Q w H')) : wpAny (model X.prog X.w) X.A (call (.builtin "min") [a, b, c]) (EP X pins σ Q) X.xe s := by
  obtain ⟨hall, hd⟩ := best_some hb
  have cmp := mm_core hu I sr (o := .lt) (by decide) rs rv hall
  have hs : (s.heap.push { cls := .type "tuple", data := .seq #[a, b, c] }).IsTuple s.heap.objs.size [a, b, c].toArray := ⟨_, Heap.get?_push_size _ rfl, rfl, _, rfl⟩
  have ne : ∀ {b : Addr} {o : Obj}, s.heap.get? b = some o → b ≠ s.heap.objs.size := fun e => Nat.ne_of_lt (Heap.lt_size e)
  refine min_args3 (wpAny_pyIter_tuple hs ?_)
  refine ⟨_, [_, s.heap.objs.size], [_], _, _, _, btOf .lt xs, Lat s, rfl, Walks.tuple (A := X.A.in1) (I.ok.hd hc) _ s.heap.objs.size (Nat.ne_of_lt push_top) [a, b, c].toArray, ⟨⟨_, Heap.get?_push_size _ rfl, rfl, rfl⟩, hs.push _⟩, fun b hb => ?_, (by simp), ⟨_, s.toks, rfl, fun b o e => Heap.get?_push_of_some _ (Heap.get?_push_of_some _ e)⟩, fun s' h' tk hl k => ?_, cmp, fun v h' tk hv k => ?_⟩
  · rcases List.mem_cons.mp hb with rfl | hb
    · exact push_top
    · rw [List.mem_singleton.mp hb]; exact push_lt push_top
  · obtain ⟨h1, t1, rfl, k1⟩ := hl
    refine ⟨h', tk, rfl, fun b o e => k b o (push_lt (push_lt (Heap.lt_size e))) ?_ (k1 b o e)⟩
    have h1 := Heap.lt_size e
    intro hm
    rw [List.mem_singleton.mp hm, Heap.size_push] at h1
    exact Nat.lt_irrefl _ (Nat.lt_of_succ_lt h1)
  · refine best_end I sr rs rv hd h hv fun b o e => k b o ?_ (Heap.get?_push_of_some _ (Heap.get?_push_of_some _ e))
    have h1 := Heap.lt_size e
    intro hm
    rw [List.mem_singleton.mp hm, Heap.size_push] at h1
    exact Nat.lt_irrefl _ (Nat.lt_of_succ_lt h1)
theorem min_of_4 (hc : X.calm = true) (hu : X.A.units + 27 < cLine) {Ex : Str → Option Nat → List Addr → Store → Hp → Prop} {pins : List (Addr × Obj)} {σ : L2.St} {H : Hp} {s : Shared} {m : List Addr} {S : Store} {Q : VK} {xs : List D} {vs : List V} {a b c e : Value} {d : D} (I : Inv X pins σ H s) (sr : SR X.K m S H)
    (rs : Reps m H xs vs) (rv : Vals vs [a, b, c, e]) (hb : bestD .lt xs = some d)
    (h : post X.K Ex m H (.ok d S) (fun d m' _ H' => ∀ w, Rep m' H' d w → Q w H')) : wpAny (model X.prog X.w) X.A (call (.builtin "min") [a, b, c, e]) (EP X pins σ Q) X.xe s := by
  obtain ⟨hall, hd⟩ := best_some hb
  have cmp := mm_core hu I sr (o := .lt) (by decide) rs rv hall
  have hs : (s.heap.push { cls := .type "tuple", data := .seq #[a, b, c, e] }).IsTuple s.heap.objs.size [a, b, c, e].toArray := ⟨_, Heap.get?_push_size _ rfl, rfl, _, rfl⟩
  have ne : ∀ {b : Addr} {o : Obj}, s.heap.get? b = some o → b ≠ s.heap.objs.size := fun e => Nat.ne_of_lt (Heap.lt_size e)
  refine min_args4 (wpAny_pyIter_tuple hs ?_)
  refine ⟨_, [_, s.heap.objs.size], [_], _, _, _, btOf .lt xs, Lat s, rfl, Walks.tuple (A := X.A.in1) (I.ok.hd hc) _ s.heap.objs.size (Nat.ne_of_lt push_top) [a, b, c, e].toArray, ⟨⟨_, Heap.get?_push_size _ rfl, rfl, rfl⟩, hs.push _⟩, fun b hb => ?_, (by simp), ⟨_, s.toks, rfl, fun b o e => Heap.get?_push_of_some _ (Heap.get?_push_of_some _ e)⟩, fun s' h' tk hl k => ?_, cmp, fun v h' tk hv k => ?_⟩
  · rcases List.mem_cons.mp hb with rfl | hb
    · exact push_top
    · rw [List.mem_singleton.mp hb]; exact push_lt push_top
  · obtain ⟨h1, t1, rfl, k1⟩ := hl
    refine ⟨h', tk, rfl, fun b o e => k b o (push_lt (push_lt (Heap.lt_size e))) ?_ (k1 b o e)⟩
    have h1 := Heap.lt_size e
    intro hm
    rw [List.mem_singleton.mp hm, Heap.size_push] at h1
    exact Nat.lt_irrefl _ (Nat.lt_of_succ_lt h1)
  · refine best_end I sr rs rv hd h hv fun b o e => k b o ?_ (Heap.get?_push_of_some _ (Heap.get?_push_of_some _ e))
    have h1 := Heap.lt_size e
    intro hm
    rw [List.mem_singleton.mp hm, Heap.size_push] at h1
    exact Nat.lt_irrefl _ (Nat.lt_of_succ_lt h1)
theorem call_min (hc : X.calm = true) (hu : X.A.units + 27 < cLine) : CallR X (.builtin "min") (rCD X.K (mnD .lt)) := by
  intro pins s σ H xs us Q I r h
  obtain ⟨Ex, m, S, ds, sr, rs, h⟩ := h
  unfold mnD at h
  split at h
  · cases rs with
    | cons r1 rn =>
      cases rn
      cases r1 with
      | ref ea =>
        obtain ⟨o, e0, h⟩ := getL_bind h
        obtain ⟨d, hb, h⟩ := ofD_some h
        obtain ⟨vs, q, ra⟩ := sr.sq_at e0 ea
        obtain ⟨its, rv, pl, _⟩ := I.list q
        rw [Vals.ref1 r]
        exact min_one hc hu I sr ra rv (.inl pl.isList) hb h
  · cases rs with
    | cons r1 rn =>
      cases rn
      cases r1 with
      | tup ea ra =>
        obtain ⟨d, hb, h⟩ := ofD_some h
        obtain ⟨its, rv, pl, _⟩ := I.tuple (SqT.of ea)
        rw [Vals.ref1 r]
        exact min_one hc hu I sr ra rv (.inr pl) hb h
  · obtain ⟨d, hb, h⟩ := ofD_some h
    cases rs with | cons a1 rs => cases rs with | cons a2 rs => cases rs; cases r with | cons b1 r => cases r with | cons b2 r => cases r; exact min_of_2 hc hu I sr (.cons a1 (.cons a2 .nil)) (.cons b1 (.cons b2 .nil)) hb h
  · obtain ⟨d, hb, h⟩ := ofD_some h
    cases rs with | cons a1 rs => cases rs with | cons a2 rs => cases rs with | cons a3 rs => cases rs; cases r with | cons b1 r => cases r with | cons b2 r => cases r with | cons b3 r => cases r; exact min_of_3 hc hu I sr (.cons a1 (.cons a2 (.cons a3 .nil))) (.cons b1 (.cons b2 (.cons b3 .nil))) hb h
  · obtain ⟨d, hb, h⟩ := ofD_some h
    cases rs with | cons a1 rs => cases rs with | cons a2 rs => cases rs with | cons a3 rs => cases rs with | cons a4 rs => cases rs; cases r with | cons b1 r => cases r with | cons b2 r => cases r with | cons b3 r => cases r with | cons b4 r => cases r; exact min_of_4 hc hu I sr (.cons a1 (.cons a2 (.cons a3 (.cons a4 .nil)))) (.cons b1 (.cons b2 (.cons b3 (.cons b4 .nil)))) hb h
  · exact h.elim
/-- max of one list or tuple -/
theorem max_one (hc : X.calm = true) (hu : X.A.units + 27 < cLine) {Ex : Str → Option Nat → List Addr → Store → Hp → Prop} {pins : List (Addr × Obj)} {σ : L2.St} {H : Hp} {s : Shared} {m : List Addr} {S : Store} {Q : VK} {xs : List D} {vs : List V} {its : List Value} {d : D} {a : Addr} (I : Inv X pins σ H s) (sr : SR X.K m S H)
    (rs : Reps m H xs vs) (rv : Vals vs its) (hs : s.heap.IsList a its.toArray ∨ s.heap.IsTuple a its.toArray) (hb : bestD .gt xs = some d)
    (h : post X.K Ex m H (.ok d S) (fun d m' _ H' => ∀ w, Rep m' H' d w → Q w H')) : wpAny (model X.prog X.w) X.A (call (.builtin "max") [.ref a]) (EP X pins σ Q) X.xe s := by
  obtain ⟨hall, hd⟩ := best_some hb
  have hn : 0 < its.toArray.size := by
    have n : its.toArray.size = xs.length := by rw [List.size_toArray, ← rv.length, rs.length]
    have := (List.getElem?_eq_some_iff.mp hd).1
    omega
  have cmp := mm_core hu I sr (o := .gt) (by decide) rs rv hall
  refine max_walk ?_
  have ne : ∀ {b : Addr} {o : Obj}, s.heap.get? b = some o → b ≠ s.heap.objs.size := fun e => Nat.ne_of_lt (Heap.lt_size e)
  have clo : ∀ {x : Obj} (s' : Shared) (h' : Heap) (tk : Nat), Lat s s' → (∀ b o, b < (s.heap.push x).objs.size → b ∉ [s.heap.objs.size] → s'.heap.get? b = some o → h'.get? b = some o) → Lat s { s' with heap := h', toks := tk } := fun {x} s' h' tk hl k => by
    obtain ⟨h1, t1, rfl, k1⟩ := hl
    exact ⟨h', tk, rfl, fun b o e => k b o (push_lt (Heap.lt_size e)) (by simpa using ne e) (k1 b o e)⟩
  have fin : ∀ {x : Obj} (v : Value) (h' : Heap) (tk : Nat), its.toArray[argBest (btOf .gt xs) (its.toArray.size - 1)]? = some v → (∀ b o, b ∉ [s.heap.objs.size] → (s.heap.push x).get? b = some o → h'.get? b = some o) → EP X pins σ Q v { s with heap := h', toks := tk } := fun {x} v h' tk hv k =>
    best_end I sr rs rv hd h hv fun b o e => k b o (by simpa using ne e) (Heap.get?_push_of_some _ e)
  rcases hs with hs | hs
  · have hlt : a < s.heap.objs.size := by obtain ⟨_, e, _⟩ := hs; exact Heap.lt_size e
    refine wpAny_pyIter_list hs ?_
    refine ⟨s.heap.objs.size, [s.heap.objs.size, a], [s.heap.objs.size], _, _, _, btOf .gt xs, Lat s, rfl, Walks.list (A := X.A.in1) (I.ok.hd hc) _ a (Nat.ne_of_lt hlt) its.toArray, ⟨⟨_, Heap.get?_push_size _ rfl, rfl, rfl⟩, hs.push _⟩, fun b hb => ?_, hn, ⟨_, s.toks, rfl, fun b o e => Heap.get?_push_of_some _ e⟩, clo, cmp, fin⟩
    rcases List.mem_cons.mp hb with rfl | hb
    · exact push_top
    · rw [List.mem_singleton.mp hb]; exact push_lt hlt
  · have hlt : a < s.heap.objs.size := by obtain ⟨_, e, _⟩ := hs; exact Heap.lt_size e
    refine wpAny_pyIter_tuple hs ?_
    refine ⟨s.heap.objs.size, [s.heap.objs.size, a], [s.heap.objs.size], _, _, _, btOf .gt xs, Lat s, rfl, Walks.tuple (A := X.A.in1) (I.ok.hd hc) _ a (Nat.ne_of_lt hlt) its.toArray, ⟨⟨_, Heap.get?_push_size _ rfl, rfl, rfl⟩, hs.push _⟩, fun b hb => ?_, hn, ⟨_, s.toks, rfl, fun b o e => Heap.get?_push_of_some _ e⟩, clo, cmp, fin⟩
    rcases List.mem_cons.mp hb with rfl | hb
    · exact push_top
    · rw [List.mem_singleton.mp hb]; exact push_lt hlt
theorem max_of_2 (hc : X.calm = true) (hu : X.A.units + 27 < cLine) {Ex : Str → Option Nat → List Addr → Store → Hp → Prop} {pins : List (Addr × Obj)} {σ : L2.St} {H : Hp} {s : Shared} {m : List Addr} {S : Store} {Q : VK} {xs : List D} {vs : List V} {a b : Value} {d : D} (I : Inv X pins σ H s) (sr : SR X.K m S H)
    (rs : Reps m H xs vs) (rv : Vals vs [a, b]) (hb : bestD .gt xs = some d)
    (h : post X.K Ex m H (.ok d S) (fun d m' _ H' => ∀ w, Rep m' H' d w → Q w H')) : wpAny (model X.prog X.w) X.A (call (.builtin "max") [a, b]) (EP X pins σ Q) X.xe s := by
  obtain ⟨hall, hd⟩ := best_some hb
  have cmp := mm_core hu I sr (o := .gt) (by decide) rs rv hall
  have hs : (s.heap.push { cls := .type "tuple", data := .seq #[a, b] }).IsTuple s.heap.objs.size [a, b].toArray := ⟨_, Heap.get?_push_size _ rfl, rfl, _, rfl⟩
  have ne : ∀ {b : Addr} {o : Obj}, s.heap.get? b = some o → b ≠ s.heap.objs.size := fun e => Nat.ne_of_lt (Heap.lt_size e)
  refine max_args2 (wpAny_pyIter_tuple hs ?_)
  refine ⟨_, [_, s.heap.objs.size], [_], _, _, _, btOf .gt xs, Lat s, rfl, Walks.tuple (A := X.A.in1) (I.ok.hd hc) _ s.heap.objs.size (Nat.ne_of_lt push_top) [a, b].toArray, ⟨⟨_, Heap.get?_push_size _ rfl, rfl, rfl⟩, hs.push _⟩, fun b hb => ?_, (by simp), ⟨_, s.toks, rfl, fun b o e => Heap.get?_push_of_some _ (Heap.get?_push_of_some _ e)⟩, fun s' h' tk hl k => ?_, cmp, fun v h' tk hv k => ?_⟩
  · rcases List.mem_cons.mp hb with rfl | hb
    · exact push_top
    · rw [List.mem_singleton.mp hb]; exact push_lt push_top
  · obtain ⟨h1, t1, rfl, k1⟩ := hl
    refine ⟨h', tk, rfl, fun b o e => k b o (push_lt (push_lt (Heap.lt_size e))) ?_ (k1 b o e)⟩
    have h1 := Heap.lt_size e
    intro hm
    rw [List.mem_singleton.mp hm, Heap.size_push] at h1
    exact Nat.lt_irrefl _ (Nat.lt_of_succ_lt h1)
  · refine best_end I sr rs rv hd h hv fun b o e => k b o ?_ (Heap.get?_push_of_some _ (Heap.get?_push_of_some _ e))
    have h1 := Heap.lt_size e
    intro hm
    rw [List.mem_singleton.mp hm, Heap.size_push] at h1
    exact Nat.lt_irrefl _ (Nat.lt_of_succ_lt h1)
theorem max_of_3 (hc : X.calm = true) (hu : X.A.units + 27 < cLine) {Ex : Str → Option Nat → List Addr → Store → Hp → Prop} {pins : List (Addr × Obj)} {σ : L2.St} {H : Hp} {s : Shared} {m : List Addr} {S : Store} {Q : VK} {xs : List D} {vs : List V} {a b c : Value} {d : D} (I : Inv X pins σ H s) (sr : SR X.K m S H)
    (rs : Reps m H xs vs) (rv : Vals vs [a, b, c]) (hb : bestD .gt xs = some d)
    (h : post X.K Ex m H (.ok d S) (fun d m' _ H' => ∀ w, Rep m' H' d w → Q w H')) : wpAny (model X.prog X.w) X.A (call (.builtin "max") [a, b, c]) (EP X pins σ Q) X.xe s := by
  obtain ⟨hall, hd⟩ := best_some hb
  have cmp := mm_core hu I sr (o := .gt) (by decide) rs rv hall
  have hs : (s.heap.push { cls := .type "tuple", data := .seq #[a, b, c] }).IsTuple s.heap.objs.size [a, b, c].toArray := ⟨_, Heap.get?_push_size _ rfl, rfl, _, rfl⟩
  have ne : ∀ {b : Addr} {o : Obj}, s.heap.get? b = some o → b ≠ s.heap.objs.size := fun e => Nat.ne_of_lt (Heap.lt_size e)
  refine max_args3 (wpAny_pyIter_tuple hs ?_)
  refine ⟨_, [_, s.heap.objs.size], [_], _, _, _, btOf .gt xs, Lat s, rfl, Walks.tuple (A := X.A.in1) (I.ok.hd hc) _ s.heap.objs.size (Nat.ne_of_lt push_top) [a, b, c].toArray, ⟨⟨_, Heap.get?_push_size _ rfl, rfl, rfl⟩, hs.push _⟩, fun b hb => ?_, (by simp), ⟨_, s.toks, rfl, fun b o e => Heap.get?_push_of_some _ (Heap.get?_push_of_some _ e)⟩, fun s' h' tk hl k => ?_, cmp, fun v h' tk hv k => ?_⟩
  · rcases List.mem_cons.mp hb with rfl | hb
    · exact push_top
    · rw [List.mem_singleton.mp hb]; exact push_lt push_top
  · obtain ⟨h1, t1, rfl, k1⟩ := hl
    refine ⟨h', tk, rfl, fun b o e => k b o (push_lt (push_lt (Heap.lt_size e))) ?_ (k1 b o e)⟩
    have h1 := Heap.lt_size e
    intro hm
    rw [List.mem_singleton.mp hm, Heap.size_push] at h1
    exact Nat.lt_irrefl _ (Nat.lt_of_succ_lt h1)
  · refine best_end I sr rs rv hd h hv fun b o e => k b o ?_ (Heap.get?_push_of_some _ (Heap.get?_push_of_some _ e))
    have h1 := Heap.lt_size e
    intro hm
    rw [List.mem_singleton.mp hm, Heap.size_push] at h1
    exact Nat.lt_irrefl _ (Nat.lt_of_succ_lt h1)
theorem max_of_4 (hc : X.calm = true) (hu : X.A.units + 27 < cLine) {Ex : Str → Option Nat → List Addr → Store → Hp → Prop} {pins : List (Addr × Obj)} {σ : L2.St} {H : Hp} {s : Shared} {m : List Addr} {S : Store} {Q : VK} {xs : List D} {vs : List V} {a b c e : Value} {d : D} (I : Inv X pins σ H s) (sr : SR X.K m S H)
    (rs : Reps m H xs vs) (rv : Vals vs [a, b, c, e]) (hb : bestD .gt xs = some d)
    (h : post X.K Ex m H (.ok d S) (fun d m' _ H' => ∀ w, Rep m' H' d w → Q w H')) : wpAny (model X.prog X.w) X.A (call (.builtin "max") [a, b, c, e]) (EP X pins σ Q) X.xe s := by
  obtain ⟨hall, hd⟩ := best_some hb
  have cmp := mm_core hu I sr (o := .gt) (by decide) rs rv hall
  have hs : (s.heap.push { cls := .type "tuple", data := .seq #[a, b, c, e] }).IsTuple s.heap.objs.size [a, b, c, e].toArray := ⟨_, Heap.get?_push_size _ rfl, rfl, _, rfl⟩
  have ne : ∀ {b : Addr} {o : Obj}, s.heap.get? b = some o → b ≠ s.heap.objs.size := fun e => Nat.ne_of_lt (Heap.lt_size e)
  refine max_args4 (wpAny_pyIter_tuple hs ?_)
  refine ⟨_, [_, s.heap.objs.size], [_], _, _, _, btOf .gt xs, Lat s, rfl, Walks.tuple (A := X.A.in1) (I.ok.hd hc) _ s.heap.objs.size (Nat.ne_of_lt push_top) [a, b, c, e].toArray, ⟨⟨_, Heap.get?_push_size _ rfl, rfl, rfl⟩, hs.push _⟩, fun b hb => ?_, (by simp), ⟨_, s.toks, rfl, fun b o e => Heap.get?_push_of_some _ (Heap.get?_push_of_some _ e)⟩, fun s' h' tk hl k => ?_, cmp, fun v h' tk hv k => ?_⟩
  · rcases List.mem_cons.mp hb with rfl | hb
    · exact push_top
    · rw [List.mem_singleton.mp hb]; exact push_lt push_top
  · obtain ⟨h1, t1, rfl, k1⟩ := hl
    refine ⟨h', tk, rfl, fun b o e => k b o (push_lt (push_lt (Heap.lt_size e))) ?_ (k1 b o e)⟩
    have h1 := Heap.lt_size e
    intro hm
    rw [List.mem_singleton.mp hm, Heap.size_push] at h1
    exact Nat.lt_irrefl _ (Nat.lt_of_succ_lt h1)
  · refine best_end I sr rs rv hd h hv fun b o e => k b o ?_ (Heap.get?_push_of_some _ (Heap.get?_push_of_some _ e))
    have h1 := Heap.lt_size e
    intro hm
    rw [List.mem_singleton.mp hm, Heap.size_push] at h1
    exact Nat.lt_irrefl _ (Nat.lt_of_succ_lt h1)
theorem call_max (hc : X.calm = true) (hu : X.A.units + 27 < cLine) : CallR X (.builtin "max") (rCD X.K (mnD .gt)) := by
  intro pins s σ H xs us Q I r h
  obtain ⟨Ex, m, S, ds, sr, rs, h⟩ := h
  unfold mnD at h
  split at h
  · cases rs with
    | cons r1 rn =>
      cases rn
      cases r1 with
      | ref ea =>
        obtain ⟨o, e0, h⟩ := getL_bind h
        obtain ⟨d, hb, h⟩ := ofD_some h
        obtain ⟨vs, q, ra⟩ := sr.sq_at e0 ea
        obtain ⟨its, rv, pl, _⟩ := I.list q
        rw [Vals.ref1 r]
        exact max_one hc hu I sr ra rv (.inl pl.isList) hb h
  · cases rs with
    | cons r1 rn =>
      cases rn
      cases r1 with
      | tup ea ra =>
        obtain ⟨d, hb, h⟩ := ofD_some h
        obtain ⟨its, rv, pl, _⟩ := I.tuple (SqT.of ea)
        rw [Vals.ref1 r]
        exact max_one hc hu I sr ra rv (.inr pl) hb h
  · obtain ⟨d, hb, h⟩ := ofD_some h
    cases rs with | cons a1 rs => cases rs with | cons a2 rs => cases rs; cases r with | cons b1 r => cases r with | cons b2 r => cases r; exact max_of_2 hc hu I sr (.cons a1 (.cons a2 .nil)) (.cons b1 (.cons b2 .nil)) hb h
  · obtain ⟨d, hb, h⟩ := ofD_some h
    cases rs with | cons a1 rs => cases rs with | cons a2 rs => cases rs with | cons a3 rs => cases rs; cases r with | cons b1 r => cases r with | cons b2 r => cases r with | cons b3 r => cases r; exact max_of_3 hc hu I sr (.cons a1 (.cons a2 (.cons a3 .nil))) (.cons b1 (.cons b2 (.cons b3 .nil))) hb h
  · obtain ⟨d, hb, h⟩ := ofD_some h
    cases rs with | cons a1 rs => cases rs with | cons a2 rs => cases rs with | cons a3 rs => cases rs with | cons a4 rs => cases rs; cases r with | cons b1 r => cases r with | cons b2 r => cases r with | cons b3 r => cases r with | cons b4 r => cases r; exact max_of_4 hc hu I sr (.cons a1 (.cons a2 (.cons a3 (.cons a4 .nil)))) (.cons b1 (.cons b2 (.cons b3 (.cons b4 .nil)))) hb h
  · exact h.elim
end
end NL

/-! sorted. -/
namespace NL
open PySem PySem.Spec PyProof.Rows L2
mutual
def noRef : D → Bool
  | .ref _ => false
  | .tup xs => noRefs xs
  | _ => true
def noRefs : List D → Bool
  | [] => true
  | x :: r => noRef x && noRefs r
end
mutual
theorem rep_fun {m : List Addr} {H : Hp} : ∀ {d d' : D} {v : V}, noRef d = true → noRef d' = true → Rep m H d v → Rep m H d' v → d = d'
  | _, d', _, _, n2, .non, r => by cases r; rfl
  | _, d', _, _, n2, .bl _, r => by cases r; rfl
  | _, d', _, _, n2, .int _, r => by cases r; rfl
  | _, d', _, _, n2, .str _, r => by cases r; rfl
  | .tup xs, d', _, n1, n2, .tup e a, r => by
    cases r with
    | tup e' a' =>
      rw [e] at e'
      cases e'
      unfold noRef at n1 n2
      rw [reps_fun n1 n2 a a']
    | ref _ => unfold noRef at n2; cases n2
  | _, d', _, n1, n2, .ref _, r => by unfold noRef at n1; cases n1
theorem reps_fun {m : List Addr} {H : Hp} : ∀ {ds ds' : List D} {vs : List V}, noRefs ds = true → noRefs ds' = true → Reps m H ds vs → Reps m H ds' vs → ds = ds'
  | _, _, _, _, _, .nil, r => by cases r; rfl
  | _, _, _, n1, n2, .cons a t, r => by
    cases r with
    | cons a' t' =>
      unfold noRefs at n1 n2
      rw [Bool.and_eq_true] at n1 n2
      rw [rep_fun n1.1 n2.1 a a', reps_fun n1.2 n2.2 t t']
end
def ltD (x y : D) : Bool := (ordD .lt 12 x y).getD false
/-- of what kind the first things are -/
def firstT : D → Option Bool
  | .tup (.int _ :: _) => some true
  | .tup (.tup _ :: _) => some false
  | _ => none
/-- what can be sorted: ints, or tuples that begin alike, in one order -/
structure OrdOk (xs : List D) : Prop where
  cmp : ∀ x ∈ xs, ∀ y ∈ xs, (ordD .lt 12 x y).isSome = true
  kind : (∃ ns : List Int, xs = ns.map D.int) ∨ ∃ b, ∀ x ∈ xs, firstT x = some b
  no : ∀ x ∈ xs, noRef x = true
  ir : ∀ x ∈ xs, ltD x x = false
  tr : ∀ x ∈ xs, ∀ y ∈ xs, ∀ z ∈ xs, ltD x y = true → ltD y z = true → ltD x z = true
  tt : ∀ x ∈ xs, ∀ y ∈ xs, x ≠ y → ltD x y = true ∨ ltD y x = true
/-- put in order -/
def ins {α : Type} (lt : α → α → Bool) (x : α) : List α → List α
  | [] => [x]
  | y :: ys => if lt y x = true then y :: ins lt x ys else x :: y :: ys
def srt {α : Type} (lt : α → α → Bool) : List α → List α
  | [] => []
  | x :: xs => ins lt x (srt lt xs)
theorem ins_perm {α : Type} {lt : α → α → Bool} {x : α} : ∀ ys : List α, (ins lt x ys).Perm (x :: ys)
  | [] => .refl _
  | y :: ys => by
    unfold ins
    split
    · exact ((ins_perm ys).cons y).trans (.swap x y ys)
    · exact .refl _
theorem srt_perm {α : Type} {lt : α → α → Bool} : ∀ xs : List α, (srt lt xs).Perm xs
  | [] => .refl _
  | x :: xs => (ins_perm (srt lt xs)).trans ((srt_perm xs).cons x)
theorem ins_srtd {α : Type} {lt : α → α → Bool} {P : α → Prop} (as : ∀ x y, P x → P y → lt x y = true → lt y x = false) (tr : ∀ x y z, P x → P y → P z → lt y x = false → lt z y = false → lt z x = false) {x : α} (hx : P x) :
    ∀ ys : List α, (∀ y ∈ ys, P y) → ys.Pairwise (fun a b => lt b a = false) → (ins lt x ys).Pairwise (fun a b => lt b a = false)
  | [], _, _ => List.pairwise_singleton _ _
  | y :: ys, hP, h => by
    obtain ⟨h1, h2⟩ := List.pairwise_cons.mp h
    have py := hP y List.mem_cons_self
    unfold ins
    split
    · rename_i c
      refine List.pairwise_cons.mpr ⟨fun z hz => ?_, ins_srtd as tr hx ys (fun z hz => hP z (List.mem_cons_of_mem _ hz)) h2⟩
      rcases List.mem_cons.mp ((ins_perm ys).mem_iff.mp hz) with rfl | hz
      · exact as y z py hx c
      · exact h1 z hz
    · rename_i c
      have c : lt y x = false := by simpa using c
      refine List.pairwise_cons.mpr ⟨fun z hz => ?_, h⟩
      rcases List.mem_cons.mp hz with rfl | hz
      · exact c
      · exact tr x y z hx py (hP z (List.mem_cons_of_mem _ hz)) c (h1 z hz)
theorem srt_srtd {α : Type} {lt : α → α → Bool} {P : α → Prop} (as : ∀ x y, P x → P y → lt x y = true → lt y x = false) (tr : ∀ x y z, P x → P y → P z → lt y x = false → lt z y = false → lt z x = false) :
    ∀ xs : List α, (∀ x ∈ xs, P x) → (srt lt xs).Pairwise (fun a b => lt b a = false)
  | [], _ => List.Pairwise.nil
  | x :: xs, hP => ins_srtd as tr (hP x List.mem_cons_self) _ (fun y hy => hP y (List.mem_cons_of_mem _ ((srt_perm xs).mem_iff.mp hy))) (srt_srtd as tr xs fun y hy => hP y (List.mem_cons_of_mem _ hy))
open Classical in
noncomputable def sortD (xs : List D) : Option (List D) := if OrdOk xs then some (srt ltD xs) else none
theorem OrdOk.as {xs : List D} (o : OrdOk xs) {x y : D} (hx : x ∈ xs) (hy : y ∈ xs) (h : ltD x y = true) : ltD y x = false := by
  cases e : ltD y x with
  | false => rfl
  | true => have := o.tr x hx y hy x hx h e; rw [o.ir x hx] at this; cases this
theorem OrdOk.le_tr {xs : List D} (o : OrdOk xs) {x y z : D} (hx : x ∈ xs) (hy : y ∈ xs) (hz : z ∈ xs) (h : ltD y x = false) (h2 : ltD z y = false) : ltD z x = false := by
  cases e : ltD z x with
  | false => rfl
  | true =>
    by_cases xy : x = y
    · subst xy; rw [e] at h2; cases h2
    · rcases o.tt x hx y hy xy with k | k
      · have := o.tr z hz x hx y hy e k; rw [this] at h2; cases h2
      · rw [k] at h; cases h
/-- two rearrangements in order are one -/
theorem perm_uniq {α : Type} {lt : α → α → Bool} : ∀ {l m : List α}, l.Perm m → (∀ x ∈ l, ∀ y ∈ l, x ≠ y → lt x y = true ∨ lt y x = true) → l.Pairwise (fun x y => lt y x = false) → m.Pairwise (fun x y => lt y x = false) → l = m
  | [], m, p, _, _, _ => (List.Perm.eq_nil p.symm).symm
  | x :: l, [], p, _, _, _ => absurd p.length_eq (by simp)
  | x :: l, y :: m, p, t, h1, h2 => by
    have e : x = y := by
      apply Classical.byContradiction
      intro ne
      have hy : y ∈ l := by
        rcases List.mem_cons.mp (p.mem_iff.mpr (List.mem_cons_self (a := y) (l := m))) with z | z
        · exact absurd z.symm ne
        · exact z
      have hx : x ∈ m := by
        rcases List.mem_cons.mp (p.mem_iff.mp (List.mem_cons_self (a := x) (l := l))) with z | z
        · exact absurd z ne
        · exact z
      have q1 := (List.pairwise_cons.mp h1).1 y hy
      have q2 := (List.pairwise_cons.mp h2).1 x hx
      rcases t x List.mem_cons_self y (List.mem_cons_of_mem _ hy) ne with z | z
      · rw [z] at q2; cases q2
      · rw [z] at q1; cases q1
    subst e
    rw [perm_uniq p.cons_inv (fun a ha b hb => t a (List.mem_cons_of_mem _ ha) b (List.mem_cons_of_mem _ hb)) (List.pairwise_cons.mp h1).2 (List.pairwise_cons.mp h2).2]
theorem OrdOk.sorted {xs : List D} (o : OrdOk xs) : (srt ltD xs).Pairwise fun x y => ltD y x = false :=
  srt_srtd (P := fun x => x ∈ xs) (fun x y hx hy h => o.as hx hy h) (fun x y z hx hy hz h k => o.le_tr hx hy hz h k) xs fun x h => h
theorem sortD_some {xs ys : List D} (h : sortD xs = some ys) : OrdOk xs ∧ ys = srt ltD xs := by
  unfold sortD at h
  split at h
  · rename_i o; cases h; exact ⟨o, rfl⟩
  · cases h
section
variable {X : Cx} {pins : List (Addr × Obj)} {σ : L2.St} {H : Hp} {s : Shared} {m : List Addr} {S : Store}
/-- the lexicographic loop of the sort, over what stands in the store -/
theorem kat_lex (I : Inv X pins σ H s) (sr : SR X.K m S H) {prog : Program} {w : World} {A : Around} (hu : A.units + 40 < cLine) {fl : Bool} {k : Nat} (hk : k ≤ 12) {Q : Bool → Shared → Prop} : ∀ (xs ys : List D) (vs ws : List V) (us ts : List Value) (i : Nat) (b : Bool),
    lexO .lt (ordD .lt k) xs ys = some b → ((xs.zip ys).all fun p => match eqD [] p.1 p.2 with | some true => true | some false => (ordD .lt k p.1 p.2).isSome | none => false) = true →
    Reps m H xs vs → Reps m H ys ws → Vals vs us → Vals ws ts → ((fl && i == 0) = true → ∃ n n' r r', xs = D.int n :: r ∧ ys = D.int n' :: r') → Q b s → PySem.W.KatLex prog w A fl (ord4 .lt (xs.length : Nat) (ys.length : Nat)) Q (us.zip ts) i s
  | [], [], _, _, _, _, i, b, h, _, .nil, .nil, .nil, .nil, _, hq => by
    unfold lexO at h
    cases h
    exact PySem.W.kat_nil hq
  | [], y :: ys, _, _, _, _, i, b, h, _, .nil, .cons _ _, .nil, .cons _ _, _, hq => by
    unfold lexO at h
    cases h
    refine PySem.W.kat_nil ?_
    have : ord4 .lt (([] : List D).length : Nat) ((y :: ys).length : Nat) = ord4 .lt 0 1 := by simp [ord4] <;> omega
    rw [this]; exact hq
  | x :: xs, [], _, _, _, _, i, b, h, _, .cons _ _, .nil, .cons _ _, .nil, _, hq => by
    unfold lexO at h
    cases h
    refine PySem.W.kat_nil ?_
    have : ord4 .lt ((x :: xs).length : Nat) (([] : List D).length : Nat) = ord4 .lt 1 0 := by simp [ord4] <;> omega
    rw [this]; exact hq
  | x :: xs, y :: ys, v :: vs, w' :: ws, u :: us, t :: ts, i, b, h, hall, .cons r1 t1, .cons r2 t2, .cons v1 w1, .cons v2 w2, hi, hq => by
    rw [List.zip_cons_cons, List.all_cons, Bool.and_eq_true] at hall
    obtain ⟨ha, hall⟩ := hall
    have eqn : ∃ c, eqD [] x y = some c ∧ (c = false → (ordD .lt k x y).isSome = true) := by
      dsimp only at ha
      cases e : eqD [] x y with
      | none => rw [e] at ha; cases ha
      | some c => refine ⟨c, rfl, fun z => ?_⟩; subst z; rw [e] at ha; exact ha
    obtain ⟨c, hc, hs⟩ := eqn
    have E : PySem.SeqAt.EqAt A s u t c := by
      have q := hc
      unfold eqD at q
      cases c1 : pd [] 12 x with
      | none => rw [c1] at q; cases q
      | some p =>
        cases c2 : pd [] 12 y with
        | none => rw [c1, c2] at q; cases q
        | some p' =>
          rw [c1, c2] at q
          have q' := Option.some.inj q
          rw [← q']
          exact eq_at I sr (pd_nil 12 x p c1) (pd_nil 12 y p' c2) r1 r2 v1 v2 A (by omega)
    rw [List.zip_cons_cons]
    refine PySem.W.kat_cons (E prog w _ _ ?_)
    have ln : ord4 .lt ((x :: xs).length : Nat) ((y :: ys).length : Nat) = ord4 .lt (xs.length : Nat) (ys.length : Nat) := by
      show decide (((x :: xs).length : Int) < ((y :: ys).length : Int)) = decide ((xs.length : Int) < (ys.length : Int))
      rw [List.length_cons, List.length_cons]
      exact decide_eq_decide.mpr (by omega)
    cases c with
    | true =>
      refine PySem.W.kat_yes ?_
      unfold lexO at h
      rw [hc] at h
      rw [ln]
      exact kat_lex I sr hu hk xs ys vs ws us ts (i + 1) b h hall t1 t2 w1 w2 (fun z => by simp at z) hq
    | false =>
      refine PySem.W.kat_no ?_
      unfold lexO at h
      rw [hc] at h
      have h : ordD .lt k x y = some b := h
      cases hfl : (fl && i == 0) with
      | true =>
        obtain ⟨n, n', r, r', e1, e2⟩ := hi hfl
        cases e1; cases e2
        cases r1; cases r2
        obtain ⟨t, rfl⟩ := v1
        obtain ⟨t', rfl⟩ := v2
        have hb : b = decide (n < n') := by
          cases k <;> (unfold ordD at h; cases h; rfl)
        subst hb
        exact oneLt_int hq
      | false =>
        exact PySem.W.kat_one _ _ (ord_rc I sr (.inl rfl) k x y b _ _ _ _ A h r1 r2 v1 v2 (by omega) prog w _ _ (show PySem.W.BoolBack Q (.bool b) s from hq))
/-- sorted of a list of tuples -/
theorem sort_tup (I : Inv X pins σ H s) (sr : SR X.K m S H) (hu : X.A.units + 60 < cLine) {xs : List D} {vs : List V} {its : List Value} {a : Addr} (o : OrdOk xs) {fb : Bool} (hk : ∀ x ∈ xs, firstT x = some fb) (rs : Reps m H xs vs) (rv : Vals vs its) (hl : s.heap.IsList a its.toArray) (hz : its.length ≤ sizeLine) {Q : VK}
    (h : ∀ (ys : List V) (p : Addr), Reps m H (srt ltD xs) ys → H p = none → Q (.ref p) (upd H p (.lst ys))) : wpAny (model X.prog X.w) X.A (call (.builtin "sorted") [.ref a]) (EP X pins σ Q) X.xe s := by
  -- which item a value is
  have ex : ∀ u ∈ its, ∃ d ∈ xs, ∃ v, Rep m H d v ∧ RelV v u := fun u hu => by
    obtain ⟨i, hi, rfl⟩ := List.mem_iff_getElem.mp hu
    have l1 : i < xs.length := by rw [rs.length, rv.length]; exact hi
    obtain ⟨v, h1, h2⟩ := rs.get (List.getElem?_eq_getElem l1)
    obtain ⟨u', h3, h4⟩ := rv.get h1
    rw [List.getElem?_eq_getElem hi] at h3
    cases h3
    exact ⟨_, List.getElem_mem l1, v, h2, h4⟩
  open Classical in
  let dec : Value → D := fun u => if h : ∃ d ∈ xs, ∃ v, Rep m H d v ∧ RelV v u then choose h else xs.headD .non
  have isref : ∀ d ∈ xs, ∀ v u, Rep m H d v → RelV v u → ∃ b, v = .ref b ∧ u = .ref b := fun d hd v u r q => by
    have := hk d hd
    cases r <;> first | (unfold firstT at this; cases this; done) | skip
    · cases q; exact ⟨_, rfl, rfl⟩
  have dec_in : ∀ u, dec u ∈ xs ∨ (xs = [] ∧ dec u = .non) := fun u => by
    show (if h : ∃ d ∈ xs, ∃ v, Rep m H d v ∧ RelV v u then Classical.choose h else xs.headD .non) ∈ xs ∨ _
    split
    · rename_i h; exact .inl (Classical.choose_spec h).1
    · cases hx : xs with
      | nil =>
        refine .inr ⟨rfl, ?_⟩
        rename_i hn
        show (if h : ∃ d ∈ xs, ∃ v, Rep m H d v ∧ RelV v u then Classical.choose h else xs.headD .non) = .non
        rw [dif_neg hn, hx]; rfl
      | cons x r => exact .inl (by simp)
  have dec_eq : ∀ d ∈ xs, ∀ v u, Rep m H d v → RelV v u → dec u = d := fun d hd v u r q => by
    have h : ∃ d ∈ xs, ∃ v, Rep m H d v ∧ RelV v u := ⟨d, hd, v, r, q⟩
    have e : dec u = Classical.choose h := dif_pos h
    obtain ⟨h1, v', h2, h3⟩ := Classical.choose_spec h
    rw [e]
    obtain ⟨b, rfl, rfl⟩ := isref d hd v u r q
    obtain ⟨b', rfl, e'⟩ := isref _ h1 v' _ h2 h3
    cases e'
    exact rep_fun (o.no _ h1) (o.no d hd) h2 r
  have irr : ltD .non .non = false := rfl
  let ltv : Value → Value → Bool := fun v u => ltD (dec v) (dec u)
  have O : SrtO.Swo ltv := by
    refine ⟨fun v u h => ?_, fun v u w h k => ?_⟩
    · rcases dec_in v with a | ⟨e, a⟩
      · rcases dec_in u with b | ⟨e, b⟩
        · exact o.as a b h
        · rw [e] at a; cases a
      · rcases dec_in u with b | ⟨_, b⟩
        · rw [e] at b; cases b
        · show ltD (dec u) (dec v) = false
          rw [a, b]; rfl
    · rcases dec_in v with a | ⟨e, a⟩
      · rcases dec_in u with b | ⟨e, b⟩
        · rcases dec_in w with c | ⟨e, c⟩
          · exact o.le_tr a b c h k
          · rw [e] at a; cases a
        · rw [e] at a; cases a
      · rcases dec_in w with c | ⟨_, c⟩
        · rw [e] at c; cases c
        · show ltD (dec w) (dec v) = false
          rw [a, c]; rfl
  refine SrtO.sorted_ord O hl hz (fun h2 h₁ a' ha' kk => ?_) fun out h1 h2 => ?_
  · intro h' keep
    have k' : ∀ b ob, s.heap.get? b = some ob → h'.get? b = some ob := fun b ob e => keep b ob (kk b ob e).1 (kk b ob e).2
    have I' : Inv X pins σ H { s with heap := h' } := I.kept (t' := s.toks) k'
    -- what an item is in the heap
    have item : ∀ u ∈ its, ∃ (b : Addr) (ds : List D) (ws : List V) (us : List Value) (ob : Obj) (n : Nat), u = .ref b ∧ D.tup ds ∈ xs ∧ dec u = .tup ds ∧ Reps m H ds ws ∧ Vals ws us ∧ h'.get? b = some ob ∧ ob.cls = .type "tuple" ∧ ob.data = .seq us.toArray n := fun u hu => by
      obtain ⟨d, hd, v, r, q⟩ := ex u hu
      have de := dec_eq d hd v u r q
      have := hk d hd
      cases r with
      | tup e a =>
        cases q
        obtain ⟨us, r1, p1, _⟩ := I'.tuple (SqT.of e)
        obtain ⟨ob, n, hb, hc, hd'⟩ : ∃ ob n, h'.get? _ = some ob ∧ ob.cls = .type "tuple" ∧ ob.data = .seq us.toArray n := by
          obtain ⟨ob, e1, e2, e3⟩ := p1
          obtain ⟨n, e3⟩ := e3
          exact ⟨ob, n, e1, e2, e3⟩
        exact ⟨_, _, _, us, ob, n, rfl, hd, de, a, r1, hb, hc, hd'⟩
      | _ => unfold firstT at this; cases this
    refine ⟨tuples' fb, fun Q E hq => ?_, fun p q hp hq => ?_⟩
    · have T : ∃ T : Value, (T != Value.type "tuple") = fb ∧ (T == T) = true ∧ ∀ l : List Value, (∀ u ∈ l, u ∈ its) → ∃ fs : List Value, PySem.W.KatTups h' l fs ∧ fs.length = l.length ∧ ∀ f ∈ fs, PySem.W.Looks (model X.prog X.w) h' (typeOf f) T := by
        refine ⟨if fb = true then .type "int" else .type "tuple", by cases fb <;> decide, by cases fb <;> decide, fun l => ?_⟩
        induction l with
        | nil => exact fun _ => ⟨[], .nil, rfl, fun f hf => (by cases hf)⟩
        | cons u l ih =>
          intro hu
          obtain ⟨fs, f1, f2, f3⟩ := ih fun w hw => hu w (List.mem_cons_of_mem _ hw)
          obtain ⟨b1, ds1, ws1, us1, ob1, n1, e1, m1, d1, r1, v1, g1, c1, t1⟩ := item u (hu u List.mem_cons_self)
          have k1 := hk _ m1
          have fst : ∃ f r, us1 = f :: r ∧ PySem.W.Looks (model X.prog X.w) h' (typeOf f) (if fb = true then .type "int" else .type "tuple") := by
            unfold firstT at k1
            split at k1 <;> first | (cases k1; done) | skip
            · rename_i ez
              cases ez
              cases k1
              cases r1 with
              | cons ra rb =>
                cases ra
                cases v1 with
                | cons va vb =>
                  obtain ⟨t, rfl⟩ := va
                  exact ⟨_, _, rfl, PySem.W.Looks.now⟩
            · rename_i ez
              cases ez
              cases k1
              cases r1 with
              | cons ra rb =>
                cases ra with
                | tup e a =>
                  cases v1 with
                  | cons va vb =>
                    cases va
                    obtain ⟨us, q1, p1, _⟩ := I'.tuple (SqT.of e)
                    obtain ⟨ob, g1, g2, _⟩ := p1
                    refine ⟨_, _, rfl, ?_⟩
                    have : PySem.W.Looks (model X.prog X.w) h' (typeOf (.ref _)) ob.cls := (PySem.W.Looks.ld g1).andThen .now
                    rw [g2] at this
                    exact this
          obtain ⟨f, r, rfl, hf⟩ := fst
          subst e1
          exact ⟨f :: fs, .cons g1 c1 t1 (by simp) f1, by simp [f2], fun g hg => by
            rcases List.mem_cons.mp hg with rfl | hg
            · exact hf
            · exact f3 g hg⟩
      obtain ⟨T, hT, hTT, fl⟩ := T
      obtain ⟨fs, f1, f2, f3⟩ := fl its fun u hu => hu
      refine PySem.W.kat_kind f1 (by rw [f2]; omega) f3 hTT ?_
      rw [hT]; exact hq
    · obtain ⟨b1, ds1, ws1, us1, ob1, n1, e1, m1, d1, r1, v1, g1, c1, t1⟩ := item p.1 hp
      obtain ⟨b2, ds2, ws2, us2, ob2, n2, e2, m2, d2, r2, v2, g2, c2, t2⟩ := item q.1 hq
      obtain ⟨b, hb⟩ := Option.isSome_iff_exists.mp (o.cmp _ m1 _ m2)
      have lb : SrtO.lt2 ltv p q = b := by
        show (ordD .lt 12 (dec p.1) (dec q.1)).getD false = b
        rw [d1, d2, hb]; rfl
      rw [e1, e2]
      refine PySem.W.kat_lt g1 t1 g2 t2 ?_
      have hb' : ordD .lt (11 + 1) (.tup ds1) (.tup ds2) = some b := hb
      rcases ordD_cases hb' with ⟨i, j, z, _⟩ | ⟨k', xs', ys', ek, z1, z2, hall, hx⟩
      · cases z
      · cases z1; cases z2
        have ek' : k' = 11 := by omega
        subst ek'
        have L := kat_lex I' sr (prog := X.prog) (w := X.w) (A := X.A.in1.in1) (by show X.A.units + 1 + 1 + 40 < cLine; omega) (fl := fb) (by omega) (Q := fun r s' => s' = { s with heap := h' } ∧ r = SrtO.lt2 ltv p q) ds1 ds2 ws1 ws2 us1 us2 0 b hx hall r1 r2 v1 v2 (fun z => by
          have z : fb = true := by simpa using z
          subst z
          have k1 := hk _ m1
          have k2 := hk _ m2
          unfold firstT at k1 k2
          split at k1 <;> first | (cases k1; done) | skip
          split at k2 <;> first | (cases k2; done) | skip
          rename_i e3 _ _ _ e4
          cases e3; cases e4
          exact ⟨_, _, _, _, rfl, rfl⟩) ⟨rfl, lb.symm⟩
        have fin : ord4 .lt (ds1.length : Nat) (ds2.length : Nat) = decide (us1.toArray.size < us2.toArray.size) := by
          rw [List.size_toArray, List.size_toArray, ← v1.length, ← v2.length, ← r1.length, ← r2.length]
          show decide ((ds1.length : Int) < ds2.length) = _
          exact decide_eq_decide.mpr (by omega)
        rw [fin] at L
        exact L
  · obtain ⟨e1, e2⟩ := refs_back rv fun v hv => by
      obtain ⟨i, hi, rfl⟩ := List.mem_iff_getElem.mp hv
      have l1 : i < xs.length := by rw [rs.length]; exact hi
      obtain ⟨v, q1, q2⟩ := rs.get (List.getElem?_eq_getElem l1)
      rw [List.getElem?_eq_getElem hi] at q1
      cases q1
      obtain ⟨u', h3, h4⟩ := rv.get (List.getElem?_eq_getElem hi)
      obtain ⟨b, eb, _⟩ := isref _ (List.getElem_mem l1) _ u' q2 h4
      exact ⟨b, eb⟩
    have em : its.map dec = xs := by
      apply List.ext_getElem?
      intro i
      rw [List.getElem?_map]
      by_cases hi : i < xs.length
      · obtain ⟨v, q1, q2⟩ := rs.get (List.getElem?_eq_getElem hi)
        obtain ⟨u', h3, h4⟩ := rv.get q1
        rw [h3, List.getElem?_eq_getElem hi]
        show some (dec u') = _
        rw [dec_eq _ (List.getElem_mem hi) v u' q2 h4]
      · have hi' : ¬ i < its.length := by rw [← rv.length, ← rs.length]; exact hi
        rw [List.getElem?_eq_none (by omega), List.getElem?_eq_none (by omega)]; rfl
    have hp : (out.map dec).Perm xs := by
      have := h2.perm.map dec
      rw [em] at this
      exact this
    have eo : out.map dec = srt ltD xs := by
      refine perm_uniq (lt := ltD) (hp.trans (srt_perm xs).symm) (fun x hx y hy ne => o.tt x (hp.mem_iff.mp hx) y (hp.mem_iff.mp hy) ne) ?_ o.sorted
      exact List.pairwise_map.mpr h1
    have om : ∀ u ∈ out, u ∈ its := fun u hu => h2.perm.mem_iff.mp hu
    have ro : ∀ l : List Value, (∀ u ∈ l, u ∈ its) → Reps m H (l.map dec) (l.map backV) ∧ Vals (l.map backV) l := fun l => by
      induction l with
      | nil => exact fun _ => ⟨.nil, .nil⟩
      | cons u l ih =>
        intro hu
        obtain ⟨i1, i2⟩ := ih fun w hw => hu w (List.mem_cons_of_mem _ hw)
        obtain ⟨d, hd, v, r, q⟩ := ex u (hu u List.mem_cons_self)
        have de := dec_eq d hd v u r q
        obtain ⟨b, rfl, rfl⟩ := isref d hd v u r q
        rw [List.map_cons, List.map_cons, de]
        exact ⟨.cons r i1, .cons rfl i2⟩
    obtain ⟨ro1, ro2⟩ := ro out om
    rw [eo] at ro1
    obtain ⟨ep, he'⟩ := PyProof.Rows.sortedAll_at s.heap its out.toArray
    have hlen : (out.map backV).length ≤ sizeLine := by
      rw [List.length_map, h2.perm.length_eq]; exact hz
    exact ⟨.ref _, upd H (s.heap.objs.size + 1) (.lst (out.map backV)), I.laid (t' := s.toks) (fun _ _ => PyProof.Rows.sortedAll_old) (Nat.le_succ _) ⟨hlen, out, ep, ro2, he'⟩, rfl, h _ _ ro1 (I.hok.fresh (Nat.le_succ _))⟩
end
end NL

namespace NL
open PySem PySem.Spec PyProof.Rows L2
/-! ### built-in calls -/
inductive Blt where | abs | int | len | min | max | list | tuple | sum | sorted
  deriving DecidableEq
def intsD : List D → Option (List Int)
  | [] => some []
  | .int i :: r => (intsD r).map (i :: ·)
  | _ => none
noncomputable def bltD : Blt → List D → M D
  | .abs, [.int i] => pure (.int (if i < 0 then -i else i))
  | .int, [.int i] => pure (.int i)
  | .int, [.bl b] => pure (.int (if b = true then 1 else 0))
  | .len, [.tup xs] => pure (.int xs.length)
  | .len, [.ref l] => getL l >>= fun xs => pure (.int xs.length)
  | .min, ds => mnD .lt ds
  | .max, ds => mnD .gt ds
  | .list, [.tup xs] => alloc (.lst xs)
  | .list, [.ref l] => getL l >>= fun xs => alloc (.lst xs)
  | .tuple, [.tup xs] => pure (.tup xs)
  | .tuple, [.ref l] => getL l >>= fun xs => pure (.tup xs)
  | .sum, [.ref l] => getL l >>= fun xs => match intsD xs with | some ns => pure (.int ns.sum) | none => die
  | .sorted, [.ref l] => getL l >>= fun xs => match sortD xs with | some ys => alloc (.lst ys) | none => die
  | _, _ => die
def Blt.name : Blt → Str
  | .abs => "abs" | .int => "int" | .len => "len" | .min => "min" | .max => "max" | .list => "list" | .tuple => "tuple" | .sum => "sum" | .sorted => "sorted"
def Blt.val : Blt → Value
  | .abs => .builtin "abs" | .int => .type "int" | .len => .builtin "len" | .min => .builtin "min" | .max => .builtin "max" | .list => .type "list" | .tuple => .type "tuple" | .sum => .builtin "sum" | .sorted => .builtin "sorted"
theorem CallR.imp {X : Cx} {f : Value} {r r' : List V → Hp → VK → Prop} (h : CallR X f r) (k : ∀ vs H Q, r' vs H Q → r vs H Q) : CallR X f r' := fun pins s σ H xs us Q I rx q => h pins s σ H xs us Q I rx (k _ _ _ q)
theorem CallR.or {X : Cx} {f : Value} {r r' : List V → Hp → VK → Prop} (h : CallR X f r) (h' : CallR X f r') : CallR X f (fun vs H Q => r vs H Q ∨ r' vs H Q) := fun pins s σ H xs us Q I rx q => q.elim (h pins s σ H xs us Q I rx) (h' pins s σ H xs us Q I rx)
theorem Reps.one {m : List Addr} {H : Hp} {d : D} {vs : List V} (h : Reps m H [d] vs) : ∃ v, vs = [v] ∧ Rep m H d v := by
  cases h with
  | cons a b => cases b; exact ⟨_, rfl, a⟩
theorem intsD_some {m : List Addr} {H : Hp} : ∀ {ds : List D} {ns : List Int} {vs : List V}, intsD ds = some ns → Reps m H ds vs → vs = ns.map V.int
  | [], _, _, h, r => by cases r; cases h; rfl
  | d :: ds, ns, _, h, r => by
    cases r with
    | cons r1 r2 =>
      cases r1 <;> simp only [intsD] at h <;> try cases h
      obtain ⟨ns', e, rfl⟩ := Option.map_eq_some_iff.mp h
      rw [intsD_some e r2]; rfl
section
variable {K : PySem.W.Frag} {m : List Addr} {S : Store} {H : Hp} {Q : VK} {E : Str → Option Nat → List Addr → Store → Hp → Prop}
theorem post_tup {xs : List D} {vs : List V} (s : SR K m S H) (h : post K E m H (.ok (.tup xs) S) (fun d m' _ H' => ∀ w, Rep m' H' d w → Q w H')) (r : Reps m H xs vs) : ∀ p, H p = none → Q (.ref p) (upd H p (.tup vs)) := fun p hp =>
  post_gr h (Gr.upd_new hp) (s.new hp) _ (.tup upd_same (Reps.mono (Gr.upd_new hp) _ _ r))
end
section
variable {X : Cx}
theorem call_sorted (hu : X.A.units + 65 < cLine) : CallR X (.builtin "sorted") (rCD X.K (bltD .sorted)) := by
  intro pins σ2 σ H vs us Q I rx h
  obtain ⟨Ex, m, S, ds, s, rs, h⟩ := h
  rcases ds with _ | ⟨d, _ | ⟨d2, ds⟩⟩
  · exact (show False from h).elim
  · obtain ⟨v, rfl, r⟩ := rs.one
    cases r <;> try exact (show False from h).elim
    rename_i l a ea
    obtain ⟨o, e0, hp⟩ := getL_bind h
    obtain ⟨ws, q, ra⟩ := s.sq_at e0 ea
    cases e : sortD (items o) with
    | none => rw [e] at hp; exact hp.elim
    | some ys =>
      rw [e] at hp
      obtain ⟨ok, rfl⟩ := sortD_some e
      have fin : ∀ {ws : List V}, Reps m H (srt ltD (items o)) ws → ∀ p, H p = none → Q (.ref p) (upd H p (.lst ws)) := fun {ws} r => post_alloc s hp r
      rcases ok.kind with ⟨ns, hn⟩ | ⟨fb, hk⟩
      · refine (CallR.imp cr_sortedI (fun vs H Q (h : rCD X.K (bltD .sorted) vs H Q ∧ ∃ (a : Addr) (ns : List Int), vs = [V.ref a] ∧ SqL X.K H a (ns.map V.int) ∧ ∀ (ns' : List Int) (p : Addr), ns'.Perm ns → ns'.Pairwise (· ≤ ·) → H p = none → Q (.ref p) (upd H p (.lst (ns'.map V.int)))) => h.2)) pins _ σ H _ us Q I rx ⟨⟨Ex, m, S, _, s, rs, h⟩, a, ns, rfl, ?_, fun ns' p hp1 hs hn' => ?_⟩
        · rw [hn] at ra
          have : ∀ {ns : List Int} {ws : List V}, Reps m H (ns.map D.int) ws → ws = ns.map V.int := fun {ns} => by
            induction ns with
            | nil => intro ws r; cases r; rfl
            | cons k ns ih =>
              intro ws r
              cases r with
              | cons r1 r2 => cases r1; rw [ih r2]; rfl
          rw [← this ra]; exact q
        · have e1 : srt ltD (items o) = ns'.map D.int := by
            refine perm_uniq (lt := ltD) ((srt_perm _).trans (by rw [hn]; exact (hp1.map D.int).symm)) (fun x hx y hy ne => ok.tt x ((srt_perm _).mem_iff.mp hx) y ((srt_perm _).mem_iff.mp hy) ne) ok.sorted ?_
            refine List.pairwise_map.mpr (hs.imp fun {x y} h => ?_)
            show (ordD .lt 12 (.int y) (.int x)).getD false = false
            have : ordD .lt 12 (.int y) (.int x) = some (decide (y < x)) := rfl
            rw [this]
            exact decide_eq_false (by omega)
          exact fin (by rw [e1]; exact Reps.ints ns') p hn'
      · obtain ⟨its, rv, hl, hz⟩ := I.list q
        have eu : us = [.ref a] := by
          cases rx with
          | cons r1 r2 => cases r1; cases r2; rfl
        rw [eu]
        exact sort_tup I s (by omega) ok hk ra rv hl.isList (by rw [← rv.length]; exact hz) fun ys p hr hn' => fin hr p hn'
  · cases d <;> exact (show False from h).elim
theorem call_bltD (hc : X.calm = true) (hu : X.A.units + 65 < cLine) : ∀ b : Blt, CallR X b.val (rCD X.K (bltD b))
  | .abs => by
    refine CallR.imp call_abs ?_
    intro vs H Q h
    obtain ⟨Ex, m, S, ds, s, rs, h⟩ := h
    rcases ds with _ | ⟨d, _ | ⟨d2, ds⟩⟩
    · exact (show False from h).elim
    · obtain ⟨v, rfl, r⟩ := rs.one
      cases r <;> try exact (show False from h).elim
      exact ⟨_, rfl, post_val s h (.int _)⟩
    · cases d <;> exact (show False from h).elim
  | .int => by
    refine CallR.imp call_int1 ?_
    intro vs H Q h
    obtain ⟨Ex, m, S, ds, s, rs, h⟩ := h
    rcases ds with _ | ⟨d, _ | ⟨d2, ds⟩⟩
    · exact (show False from h).elim
    · obtain ⟨v, rfl, r⟩ := rs.one
      cases r <;> try exact (show False from h).elim
      · exact .inr ⟨_, rfl, post_val s h (.int _)⟩
      · exact .inl ⟨_, rfl, post_val s h (.int _)⟩
    · cases d <;> exact (show False from h).elim
  | .len => by
    refine CallR.imp call_len_seq ?_
    intro vs H Q h
    obtain ⟨Ex, m, S, ds, s, rs, h⟩ := h
    rcases ds with _ | ⟨d, _ | ⟨d2, ds⟩⟩
    · exact (show False from h).elim
    · obtain ⟨v, rfl, r⟩ := rs.one
      cases r <;> try exact (show False from h).elim
      · rename_i a xs vs ea ra
        exact ⟨a, vs, rfl, .inr (SqT.of ea), by rw [← ra.length]; exact post_val s h (.int _)⟩
      · rename_i l a ea
        obtain ⟨o, e0, hp⟩ := getL_bind h
        obtain ⟨ws, q, ra⟩ := s.sq_at e0 ea
        exact ⟨a, ws, rfl, .inl q, by rw [← ra.length]; exact post_val s hp (.int _)⟩
    · cases d <;> exact (show False from h).elim
  | .min => CallR.imp (call_min hc (by omega)) fun _ _ _ h => h
  | .max => CallR.imp (call_max hc (by omega)) fun _ _ _ h => h
  | .list => by
    refine CallR.imp call_list_of ?_
    intro vs H Q h
    obtain ⟨Ex, m, S, ds, s, rs, h⟩ := h
    rcases ds with _ | ⟨d, _ | ⟨d2, ds⟩⟩
    · exact (show False from h).elim
    · obtain ⟨v, rfl, r⟩ := rs.one
      cases r <;> try exact (show False from h).elim
      · rename_i a xs vs ea ra
        exact ⟨a, vs, rfl, .inr (SqT.of ea), post_alloc s h ra⟩
      · rename_i l a ea
        obtain ⟨o, e0, hp⟩ := getL_bind h
        obtain ⟨ws, q, ra⟩ := s.sq_at e0 ea
        exact ⟨a, ws, rfl, .inl q, post_alloc s hp ra⟩
    · cases d <;> exact (show False from h).elim
  | .tuple => by
    refine CallR.imp call_tuple_of ?_
    intro vs H Q h
    obtain ⟨Ex, m, S, ds, s, rs, h⟩ := h
    rcases ds with _ | ⟨d, _ | ⟨d2, ds⟩⟩
    · exact (show False from h).elim
    · obtain ⟨v, rfl, r⟩ := rs.one
      cases r <;> try exact (show False from h).elim
      · rename_i a xs vs ea ra
        exact ⟨a, vs, rfl, .inr ⟨SqT.of ea, post_val s h (.tup ea ra)⟩⟩
      · rename_i l a ea
        obtain ⟨o, e0, hp⟩ := getL_bind h
        obtain ⟨ws, q, ra⟩ := s.sq_at e0 ea
        exact ⟨a, ws, rfl, .inl ⟨q, post_tup s hp ra⟩⟩
    · cases d <;> exact (show False from h).elim
  | .sum => by
    refine CallR.imp (cr_sum hc) ?_
    intro vs H Q h
    obtain ⟨Ex, m, S, ds, s, rs, h⟩ := h
    rcases ds with _ | ⟨d, _ | ⟨d2, ds⟩⟩
    · exact (show False from h).elim
    · obtain ⟨v, rfl, r⟩ := rs.one
      cases r <;> try exact (show False from h).elim
      rename_i l a ea
      obtain ⟨o, e0, hp⟩ := getL_bind h
      obtain ⟨ws, q, ra⟩ := s.sq_at e0 ea
      cases e : intsD (items o) with
      | none => rw [e] at hp; exact hp.elim
      | some ns =>
        rw [e] at hp
        have e2 := intsD_some e ra
        subst e2
        exact ⟨a, ns, rfl, q, post_val s hp (.int _)⟩
    · cases d <;> exact (show False from h).elim
  | .sorted => call_sorted hu
/-! ### isinstance -/
/-- the name of a value's type -/
def tyD (S : Store) : D → Option String
  | .non => some "NoneType" | .bl _ => some "bool" | .int _ => some "int" | .str _ => some "str" | .tup _ => some "tuple"
  | .ref l => match S[l]? with
    | some _ => some "list"
    | none => none
inductive Ty where | int | bool | tuple | list | str
  deriving DecidableEq
def Ty.nm : Ty → String
  | .int => "int" | .bool => "bool" | .tuple => "tuple" | .list => "list" | .str => "str"
def Ty.name : Ty → Str
  | .int => "int" | .bool => "bool" | .tuple => "tuple" | .list => "list" | .str => "str"
def isiD (T : Ty) (d : D) : M D := fun S => match tyD S d with
  | some a => .ok (.bl (a == T.nm || (a == "bool" && T.nm == "int"))) S
  | none => .stuck
theorem kit_all : ∀ (T : Ty), (kitB "NoneType" T.nm = some (("NoneType" : String) == T.nm || (("NoneType" : String) == "bool" && T.nm == "int"))) ∧ (kitB "bool" T.nm = some (("bool" : String) == T.nm || (("bool" : String) == "bool" && T.nm == "int"))) ∧
    (kitB "int" T.nm = some (("int" : String) == T.nm || (("int" : String) == "bool" && T.nm == "int"))) ∧ (kitB "str" T.nm = some (("str" : String) == T.nm || (("str" : String) == "bool" && T.nm == "int"))) ∧
    (kitB "tuple" T.nm = some (("tuple" : String) == T.nm || (("tuple" : String) == "bool" && T.nm == "int"))) ∧ (kitB "list" T.nm = some (("list" : String) == T.nm || (("list" : String) == "bool" && T.nm == "int")))
  | .int => by decide +kernel
  | .bool => by decide +kernel
  | .tuple => by decide +kernel
  | .list => by decide +kernel
  | .str => by decide +kernel
theorem SqF.ty {K : PySem.W.Frag} {H : Hp} {a : Addr} {vs : List V} (h : SqF K H a vs) : TyX K H (.ref a) (.type "list") := by
  rcases h with ⟨o, h⟩ | ⟨o, its, n, h, hc, _⟩
  · exact .base (.frz h)
  · exact .kList h hc
/-- isinstance(x, T): what the call asks -/
theorem isi_of {Ex : Str → Option Nat → List Addr → Store → Hp → Prop} {K : PySem.W.Frag} {m : List Addr} {S : Store} {H : Hp} {Q : VK} {T : Ty} {d : D} {v : V} (s : SR K m S H) (r : Rep m H d v) (h : post K Ex m H (isiD T d S) (fun d m' _ H' => ∀ w, Rep m' H' d w → Q w H')) : rIsi K [v, .ty T.nm] H Q := by
  have fin : ∀ {a : String} {b : Bool}, tyD S d = some a → TyX K H v (.type a) → kitB a T.nm = some (a == T.nm || (a == "bool" && T.nm == "int")) → rIsi K [v, .ty T.nm] H Q := fun {a b} e ty hk => by
    unfold isiD at h
    rw [e] at h
    exact ⟨v, .ty T.nm, .type a, .type T.nm, _, rfl, .ty _, ty, kit_ty hk, post_val s h (.bl _)⟩
  obtain ⟨k1, k2, k3, k4, k5, k6⟩ := kit_all T
  cases r with
  | non => exact fin (b := true) rfl (.base .non) k1
  | bl b => exact fin (b := true) rfl (.base (.bl b)) k2
  | int i => exact fin (b := true) rfl (.base (.int i)) k3
  | str x => exact fin (b := true) rfl (.base (.str x)) k4
  | tup e _ => exact fin (b := true) rfl (.base (.tup e)) k5
  | ref e =>
    rename_i l a
    cases e0 : S[l]? with
    | none => unfold isiD tyD at h; dsimp only at h; rw [e0] at h; exact h.elim
    | some o =>
      have ty : TyX K H (.ref a) (.type "list") := by
        have q := s.ob l o a e0 e
        cases o with
        | lst xs => obtain ⟨vs, q, _⟩ := q; exact .base (.lst q)
        | frz xs => obtain ⟨vs, q, _⟩ := q; exact q.ty
      exact fin (b := true) (by unfold tyD; dsimp only; rw [e0]) ty k6
/-! ### slices -/
def cutD (xs : List D) (lo hi : Option Int) : List D := (xs.drop (HT.sIx xs.length 0 lo)).take (HT.sIx xs.length xs.length hi - HT.sIx xs.length 0 lo)
def bndM : Bool → D → M (Option Int)
  | false, _ => pure none
  | true, .int i => pure (some i)
  | _, _ => die
def slcD : D → Option Int → Option Int → M D
  | .ref l, lo, hi => getL l >>= fun xs => alloc (.lst (cutD xs lo hi))
  | _, _, _ => die
theorem Reps.cut {m : List Addr} {H : Hp} {xs : List D} {vs : List V} (r : Reps m H xs vs) (lo hi : Option Int) : Reps m H (cutD xs lo hi) (cutV vs lo hi) := by
  unfold cutD cutV
  rw [r.length]
  exact (r.drop _).take _
end
end NL

/-! The small language: expressions, statements, what they answer; how the machine's text is read as them. -/
namespace NL
open PySem PySem.Spec PyProof.Rows L2
/-- a target: a name, or names that a tuple is parted to -/
inductive Tg where
  | nm (i : Nat) | tp (is : List Nat)
mutual
inductive E where
  | var (i : Nat) | con (d : D)
  | bin (o : Bop) (a b : E) | neg (a : E) | not (a : E)
  | cmp (o : Cop) (a b : E) | chn (o o' : Cop) (a b c : E)
  | and (a b : E) | or (a b : E) | ite (c a b : E)
  | tup (es : Es) | lst (es : Es)
  | idx (a i : E) | slc (p q : Bool) (a lo hi : E)
  | call (f : Nat) (es : Es) | blt (b : Blt) (es : Es) | isi (a : E) (T : Ty)
  | comp (own : List Nat) (tg : Tg) (it : It) (c e : E)
inductive Es where
  | nil | cons (e : E) (es : Es)
inductive It where
  | val (e : E) | rng1 (b : E) | rng2 (a b : E)
end
mutual
inductive St where
  | set (i : Nat) (e : E) | unp (is : List Nat) (e : E) | setIx (o i e : E) | aug (i : Nat) (e : E)
  | expr (e : E) | app (i : Nat) (e : E) | ret (e : E) | ret0 | ifs (c : E) (a b : Sts) | for_ (tg : Tg) (it : It) (b : Sts) | whl (c : E) (b : Sts)
  | brk | cnt | pass | dead
inductive Sts where
  | nil | cons (s : St) (r : Sts)
end
abbrev Env := List (Option D)
inductive Flow where
  | nx (en : Env) | brk (en : Env) | cnt (en : Env) | ret (d : D) | exc (c : Str) (d : Option Nat) (en : Env)

/-! ### what they answer -/
/-- the list is still the same -/
noncomputable def ckD : Option (Nat × Ob) → M Unit
  | none => pure ()
  | some (l, o) => fun S => open Classical in if S[l]? = some o then .ok () S else .stuck
def wipeD (en : Env) : List Nat → Env
  | [] => en
  | v :: vs => (wipeD en vs).set v none
def setAll (en : Env) : List Nat → List D → Env
  | i :: is, d :: ds => setAll (en.set i (some d)) is ds
  | _, _ => en
/-- the items of a thing that is parted into n -/
def unpD (n : Nat) : D → M (List D)
  | .tup xs => if xs.length = n then pure xs else die
  | .ref l => getL l >>= fun xs => if xs.length = n then pure xs else die
  | _ => die
def bindT : Tg → D → Env → M Env
  | .nm i, d, en => pure (en.set i (some d))
  | .tp is, d, en => unpD is.length d >>= fun ds => pure (setAll en is ds)
/-- l.append(d) -/
def pushD (l : Nat) (d : D) : M Unit := fun S => match S[l]? with
  | some (.lst xs) => if xs.length < sizeLine then .ok () (S.set l (.lst (xs ++ [d]))) else .stuck
  | _ => .stuck
noncomputable def cmpL (ck : M Unit) (bnd : D → M Env) (c : Env → M Bool) (e : Env → M D) (l : Nat) : List D → M Unit
  | [] => ck
  | x :: xs => ck >>= fun _ => bnd x >>= fun en => c en >>= fun t => if t = true then e en >>= fun d => pushD l d >>= fun _ => cmpL ck bnd c e l xs else cmpL ck bnd c e l xs
def noX {α : Type} (m : M α) : M α := fun S => match m S with
  | .ok a S => .ok a S
  | _ => .stuck
def rngD : D → D → M (List D)
  | .int a, .int b => if -(2 ^ 62) ≤ a ∧ a < 2 ^ 62 ∧ -(2 ^ 62) ≤ b ∧ b < 2 ^ 62 then pure ((List.range (b - a).toNat).map fun k => .int (a + (k : Nat))) else die
  | _, _ => die
def iterD : D → M (List D × Option (Nat × Ob))
  | .tup xs => pure (xs, none)
  | .ref l => fun S => match S[l]? with
    | some o => .ok (items o, some (l, o)) S
    | none => .stuck
  | _ => die
mutual
noncomputable def evE (C : Nat → List D → M D) : E → Env → M D
  | .var i, en => match en[i]? with
    | some (some d) => pure d
    | _ => die
  | .con d, _ => pure d
  | .bin o a b, en => evE C a en >>= fun x => evE C b en >>= fun y => binD o x y
  | .neg a, en => evE C a en >>= negD
  | .not a, en => evE C a en >>= truD >>= fun t => pure (.bl (!t))
  | .cmp o a b, en => evE C a en >>= fun x => evE C b en >>= fun y => cmpD o x y
  | .chn o o' a b c, en => evE C a en >>= fun x => evE C b en >>= fun y => cmpD o x y >>= truD >>= fun t => if t = true then evE C c en >>= fun z => cmpD o' y z else pure (.bl false)
  | .and a b, en => evE C a en >>= truD >>= fun t => if t = true then evE C b en else pure (.bl false)
  | .or a b, en => evE C a en >>= truD >>= fun t => if t = true then pure (.bl true) else evE C b en
  | .ite c a b, en => evE C c en >>= truD >>= fun t => if t = true then evE C a en else evE C b en
  | .tup es, en => evEs C es en >>= fun xs => if xs.length ≤ sizeLine then pure (.tup xs) else die
  | .lst es, en => evEs C es en >>= fun xs => if xs.length ≤ sizeLine then alloc (.lst xs) else die
  | .idx a i, en => evE C a en >>= fun x => evE C i en >>= fun y => ixD x y
  | .slc p q a lo hi, en => evE C a en >>= fun x => evE C lo en >>= bndM p >>= fun y => evE C hi en >>= bndM q >>= fun z => slcD x y z
  | .call f es, en => evEs C es en >>= fun xs => C f xs
  | .blt b es, en => evEs C es en >>= fun xs => bltD b xs
  | .isi a T, en => evE C a en >>= fun x => isiD T x
  | .comp own tg it c e, en => evIt C it en >>= fun p => fun S =>
    noX (cmpL (ckD p.2) (fun d => bindT tg d (wipeD en own)) (fun en' => evE C c en' >>= truD) (fun en' => evE C e en') S.length p.1 >>= fun _ => pure (.ref S.length)) (S ++ [.lst []])
noncomputable def evEs (C : Nat → List D → M D) : Es → Env → M (List D)
  | .nil, _ => pure []
  | .cons e es, en => evE C e en >>= fun x => evEs C es en >>= fun xs => pure (x :: xs)
noncomputable def evIt (C : Nat → List D → M D) : It → Env → M (List D × Option (Nat × Ob))
  | .val e, en => evE C e en >>= iterD
  | .rng1 b, en => evE C b en >>= fun y => rngD (.int 0) y >>= fun xs => pure (xs, none)
  | .rng2 a b, en => evE C a en >>= fun x => evE C b en >>= fun y => rngD x y >>= fun xs => pure (xs, none)
end
/-- what a statement asks of an expression: an exception ends the statement -/
def lift {α : Type} (en : Env) (m : M α) (k : α → M Flow) : M Flow := fun S => match m S with
  | .ok a S => k a S
  | .exc c d S => .ok (.exc c d en) S
  | .stuck => .stuck
/-- how often a while may turn -/
@[irreducible] def fuel : Nat := 2 ^ 100000
noncomputable def whlL (c : Env → M Bool) (b : Env → M Flow) : Nat → Env → M Flow
  | 0, _ => die
  | n + 1, en => lift en (c en) fun t => if t = true then b en >>= fun f => match f with
    | .nx en' => whlL c b n en'
    | .cnt en' => whlL c b n en'
    | .brk en' => pure (.nx en')
    | f => pure f else pure (.nx en)
noncomputable def forL (ck : M Unit) (bnd : D → Env → M Env) (b : Env → M Flow) : List D → Env → M Flow
  | [], en => lift en ck fun _ => pure (.nx en)
  | x :: xs, en => lift en (ck >>= fun _ => bnd x en) fun en1 => b en1 >>= fun f => match f with
    | .nx en' => forL ck bnd b xs en'
    | .cnt en' => forL ck bnd b xs en'
    | .brk en' => pure (.nx en')
    | f => pure f
/-- l[i] = d -/
def setIxD : D → D → D → M Unit
  | .ref l, .int i, d => getM l >>= fun xs => match ixN xs.length i with
    | some j => fun S => .ok () (S.set l (.lst (xs.set j d)))
    | none => die
  | _, _, _ => die
mutual
noncomputable def exS (C : Nat → List D → M D) : St → Env → M Flow
  | .set i e, en => lift en (evE C e en) fun d => pure (.nx (en.set i (some d)))
  | .unp is e, en => lift en (evE C e en >>= unpD is.length) fun ds => pure (.nx (setAll en is ds))
  | .setIx o i e, en => lift en (evE C e en >>= fun v => evE C o en >>= fun x => evE C i en >>= fun y => setIxD x y v) fun _ => pure (.nx en)
  | .aug i e, en => match en[i]? with
    | some (some (.int x)) => lift en (evE C e en) fun y => match y with
      | .int y => pure (.nx (en.set i (some (.int (x + y)))))
      | _ => die
    | _ => die
  | .expr e, en => lift en (evE C e en) fun _ => pure (.nx en)
  | .app i e, en => match en[i]? with
    | some (some (.ref l)) => lift en (getM l >>= fun _ => evE C e en) fun d => lift en (pushD l d) fun _ => pure (.nx en)
    | _ => die
  | .ret e, en => lift en (evE C e en) fun d => pure (.ret d)
  | .ret0, _ => pure (.ret .non)
  | .ifs c a b, en => lift en (evE C c en >>= truD) fun t => if t = true then exB C a en else exB C b en
  | .for_ tg it b, en => lift en (evIt C it en) fun p => forL (ckD p.2) (fun d en' => bindT tg d en') (fun en' => exB C b en') p.1 en
  | .whl c b, en => whlL (fun en' => evE C c en' >>= truD) (fun en' => exB C b en') fuel en
  | .brk, en => pure (.brk en)
  | .cnt, en => pure (.cnt en)
  | .pass, en => pure (.nx en)
  | .dead, _ => die
noncomputable def exB (C : Nat → List D → M D) : Sts → Env → M Flow
  | .nil, en => pure (.nx en)
  | .cons s r, en => exS C s en >>= fun f => match f with
    | .nx en' => exB C r en'
    | f => pure f
end
/-- a def: how many parameters, how many names, its body -/
structure Fn where
  np : Nat
  nv : Nat
  body : Sts
noncomputable def runF (C : Nat → List D → M D) (f : Fn) (ds : List D) : M D := fun S =>
  if ds.length = f.np then match exB C f.body (ds.map some ++ List.replicate (f.nv - f.np) none) S with
    | .ok (.nx _) S => .ok .non S
    | .ok (.ret d) S => .ok d S
    | .ok (.exc c d _) S => .exc c d S
    | _ => .stuck
  else .stuck
/-- a call, at most n deep -/
noncomputable def callT (T : Nat → Option Fn) : Nat → Nat → List D → M D
  | 0, _, _ => die
  | n + 1, f, ds => match T f with
    | some fn => runF (callT T n) fn ds
    | none => die
end NL

/-! How the machine's text is read in the small language. -/
namespace NL
open PySem PySem.Spec PyProof.Rows L2
def posOf (x : Str) : List Str → Option Nat
  | [] => none
  | y :: r => if y = x then some 0 else (posOf x r).map (· + 1)
def oddName (x : Str) : Bool := x == ("__debug__" : Str) || x == ("__classdict__" : Str)
/-- the place of a name that may be read, that may be stored -/
def visOf (sc : Scope) (N : List Str) (x : Str) : Option Nat := if oddName x = true then none else match sc.names.lookup x with
  | some .local => posOf x N
  | some .cell => posOf x N
  | some .free => posOf x N
  | _ => none
def locOf (sc : Scope) (N : List Str) (x : Str) : Option Nat := if oddName x = true then none else match sc.names.lookup x with
  | some .local => posOf x N
  | some .cell => posOf x N
  | _ => none
def isGl (sc : Scope) (x : Str) : Bool := !oddName x && decide (sc.names.lookup x = some .globalImplicit)
def conOf : Const → Option D
  | .none => some .non
  | .bool b => some (.bl b)
  | .int i => some (.int i)
  | .str x => some (.str x)
  | _ => none
def bopOf : Operator → Option Bop
  | .Add => some .add | .Sub => some .sub | .Mult => some .mul | .FloorDiv => some .fdiv | .Mod => some .mod | .Pow => some .pow
  | _ => none
def copOf : CmpOp → Cop
  | .Lt => .lt | .LtE => .le | .Gt => .gt | .GtE => .ge | .Eq => .eq | .NotEq => .ne | .In => .isIn | .NotIn => .notIn | .Is => .is_ | .IsNot => .isNot
def bltOf (x : Str) : Option Blt :=
  if x = Blt.abs.name then some .abs else if x = Blt.int.name then some .int else if x = Blt.len.name then some .len else if x = Blt.min.name then some .min else if x = Blt.max.name then some .max else
  if x = Blt.list.name then some .list else if x = Blt.tuple.name then some .tuple else if x = Blt.sum.name then some .sum else if x = Blt.sorted.name then some .sorted else none
def tyOf (x : Str) : Option Ty :=
  if x = Ty.int.name then some .int else if x = Ty.bool.name then some .bool else if x = Ty.tuple.name then some .tuple else if x = Ty.list.name then some .list else if x = Ty.str.name then some .str else none
def comL (f : Expr → Option E) : List Expr → Option Es
  | [] => some .nil
  | e :: r => match f e, comL f r with
    | some a, some b => some (.cons a b)
    | _, _ => none
def comBool (f : Expr → Option E) (op : BoolOp) : List Expr → Option E
  | [] => none
  | [e] => f e
  | e :: r => match f e, comBool f op r with
    | some a, some b => some (match op with | .And => .and a b | .Or => .or a b)
    | _, _ => none
def comO (f : Expr → Option E) : Option Expr → Option E
  | none => some (.con .non)
  | some e => f e
def namesOf (f : Str → Option Nat) : List Expr → Option (List Nat)
  | [] => some []
  | .Name x _ :: r => match f x, namesOf f r with
    | some i, some is => some (i :: is)
    | _, _ => none
  | _ => none
def comTg (f : Str → Option Nat) : Expr → Option Tg
  | .Name x _ => (f x).map .nm
  | .Tuple es _ _ => (namesOf f es).map .tp
  | _ => none
def isSlice : Expr → Bool
  | .Slice .. => true
  | _ => false
def ownOf (N : List Str) (scope : Scope) : List (Str × Nat) := scope.names.filterMap fun y => match y.2 with
  | .local => (posOf y.1 N).map fun i => (y.1, i)
  | .cell => (posOf y.1 N).map fun i => (y.1, i)
  | _ => none
def Tg.ixs : Tg → List Nat
  | .nm i => [i]
  | .tp is => is
/-- what is called: its number, how many parameters -/
abbrev FTab := Str → Option (Nat × Nat)
def Es.len : Es → Nat
  | .nil => 0
  | .cons _ r => r.len + 1
def comE (ft : FTab) (N : List Str) : Nat → Scope → Expr → Option E
  | 0, _, _ => none
  | n + 1, sc, e => match e with
    | .Constant c _ _ => (conOf c).map .con
    | .Name x _ => (visOf sc N x).map .var
    | .BinOp a o b _ => match bopOf o, comE ft N n sc a, comE ft N n sc b with
      | some o, some a, some b => some (.bin o a b)
      | _, _, _ => none
    | .UnaryOp .USub a _ => (comE ft N n sc a).map .neg
    | .UnaryOp .Not a _ => (comE ft N n sc a).map .not
    | .Compare a [o] [b] _ => match comE ft N n sc a, comE ft N n sc b with
      | some a, some b => some (.cmp (copOf o) a b)
      | _, _ => none
    | .Compare a [o, o'] [b, c] _ => match comE ft N n sc a, comE ft N n sc b, comE ft N n sc c with
      | some a, some b, some c => some (.chn (copOf o) (copOf o') a b c)
      | _, _, _ => none
    | .BoolOp o es _ => comBool (comE ft N n sc) o es
    | .IfExp c a b _ => match comE ft N n sc c, comE ft N n sc a, comE ft N n sc b with
      | some c, some a, some b => some (.ite c a b)
      | _, _, _ => none
    | .Tuple es _ _ => (comL (comE ft N n sc) es).map .tup
    | .List es _ => (comL (comE ft N n sc) es).map .lst
    | .Subscript a (.Slice lo hi none _) _ => match comE ft N n sc a, comO (comE ft N n sc) lo, comO (comE ft N n sc) hi with
      | some a, some lo', some hi' => some (.slc lo.isSome hi.isSome a lo' hi')
      | _, _, _ => none
    | .Subscript a i _ => if isSlice i = true then none else match comE ft N n sc a, comE ft N n sc i with
      | some a, some i => some (.idx a i)
      | _, _ => none
    | .Call (.Name f _) es [] _ => if isGl sc f = true then
        (if f = ("isinstance" : Str) then match es with
          | [a, .Name t _] => if isGl sc t = true then (match comE ft N n sc a, tyOf t with
            | some a, some t => some (.isi a t)
            | _, _ => none) else none
          | _ => none
        else match bltOf f, comL (comE ft N n sc) es with
          | some b, some (.cons x xs) => some (.blt b (.cons x xs))
          | some _, _ => none
          | none, some (.cons x xs) => (match ft f with
            | some (id, ar) => if ar = xs.len + 1 then some (.call id (.cons x xs)) else none
            | none => none)
          | none, _ => none) else none
    | .ListComp elt [⟨tg, it, ifs, as⟩] scope _ => if as ≠ 0 then none else if blkC N sc scope (ownOf N scope) = true then
        (match (comTg (locOf scope N) tg).filter (fun t => t.ixs.all fun i => decide (i ∈ (ownOf N scope).map (·.2))), comIt (comE ft N n) sc it, (match ifs with | [] => some (E.con (.bl true)) | [c] => comE ft N n (relS scope sc) c | _ => none), comE ft N n (relS scope sc) elt with
          | some t, some it, some c, some e => some (.comp ((ownOf N scope).map (·.2)) t it c e)
          | _, _, _, _ => none) else none
    | _ => none
where
  comIt (f : Scope → Expr → Option E) (sc : Scope) (e : Expr) : Option It := match e with
    | .Call (.Name g _) [b] [] _ => if g = ("range" : Str) then (if isGl sc g = true then (f sc b).map .rng1 else none) else (f sc e).map .val
    | .Call (.Name g _) [a, b] [] _ => if g = ("range" : Str) then (if isGl sc g = true then match f sc a, f sc b with
        | some a, some b => some (.rng2 a b)
        | _, _ => none else none) else (f sc e).map .val
    | e => (f sc e).map .val
def isStar : Expr → Bool
  | .Starred .. => true
  | _ => false
/-- a plain local on that line -/
def nmOf (sc : Scope) (line : Nat) : Expr → Option Str
  | .Name id pos => if (sc.names.lookup id == some .local && pos.line == line) = true then some id else none
  | _ => none
def lineOf (ts : List Expr) : Nat := (ts.head?.map (·.pos.line)).getD 0
/-- what the stores of «names = values» do: some none, one by one; some (some names), from the right -/
def swP (sc : Scope) (ts vs : List Expr) : Option (Option (List Str)) :=
  if (!(ts.length == 2 || ts.length == 3) || vs.length != ts.length) = true then some none else
  if vs.any isStar = true then some none else
  if ((ts.filterMap (nmOf sc (lineOf ts))).length != ts.length || (ts.filterMap (nmOf sc (lineOf ts))).eraseDups.length != (ts.filterMap (nmOf sc (lineOf ts))).length) = true then some none else
  if vs.all (foldedForSure 8) = true then some none else
  if vs.all (constantsAlone 8) = true then none else some (some (ts.filterMap (nmOf sc (lineOf ts))))
def isComp : Expr → Bool
  | .ListComp .. => true
  | _ => false
section
variable (ft : FTab) (N : List Str) (sc : Scope)
def comS : Nat → Stmt → Option St
  | 0, _ => none
  | n + 1, s => match s with
    | .Assign [.Name x _] e _ => match locOf sc N x, comE ft N n sc e with
      | some i, some e => some (.set i e)
      | _, _ => none
    | .Assign [.Tuple ts _ _] (.Tuple vs _ _) _ => (match swP sc ts vs, namesOf (locOf sc N) ts, comL (comE ft N n sc) vs with
      | some none, some is, some es => some (.unp is (.tup es))
      | some (some nm), some is, some es => if is.Nodup ∧ nm.length = is.length ∧ es.len = is.length then some (.unp is (.tup es)) else none
      | _, _, _ => none)
    | .Assign [.Tuple ts _ _] e _ => match namesOf (locOf sc N) ts, comE ft N n sc e with
      | some is, some e => some (.unp is e)
      | _, _ => none
    | .Assign [.Subscript o i _] e _ => if isSlice i = true then none else match comE ft N n sc o, comE ft N n sc i, comE ft N n sc e with
      | some o, some i, some e => some (.setIx o i e)
      | _, _, _ => none
    | .AugAssign (.Name x _) .Add e _ => match locOf sc N x, comE ft N n sc e with
      | some i, some e => some (.aug i e)
      | _, _ => none
    | .Expr (.Call (.Attribute (.Name x _) m apos) [e] [] cpos) _ => if (decide (m = ("append" : Str)) && (apos.endLine == cpos.line)) = true then (match visOf sc N x, comE ft N n sc e with
      | some i, some e => some (.app i e)
      | _, _ => none) else none
    | .Expr (.Constant (.str _) _ _) _ => some .pass
    | .Expr e _ => if isComp e = true then none else (comE ft N n sc e).map .expr
    | .Return (some e) _ => (comE ft N n sc e).map .ret
    | .Return none _ => some .ret0
    | .If c a b _ => match comE ft N n sc c, comSs (comS n) a, comSs (comS n) b with
      | some c, some a, some b => some (.ifs c a b)
      | _, _, _ => none
    | .For tg it b [] _ => match comTg (locOf sc N) tg, comE.comIt (comE ft N n) sc it, comSs (comS n) b with
      | some t, some i, some b => some (.for_ t i b)
      | _, _, _ => none
    | .While c b [] _ => match comE ft N n sc c, comSs (comS n) b with
      | some c, some b => some (.whl c b)
      | _, _ => none
    | .Break _ => some .brk
    | .Continue _ => some .cnt
    | .Pass _ => some .pass
    | .Raise .. => some .dead
    | _ => none
where
  comSs (f : Stmt → Option St) : List Stmt → Option Sts
  | [] => some .nil
  | s :: r => match f s, comSs f r with
    | some a, some b => some (.cons a b)
    | _, _ => none
end
/-- a def, with its names in order (the parameters first) -/
def comF (ft : FTab) (N : List Str) (st : Stmt) : Option Fn :=
  match comS.comSs (comS ft N (defScope st) 60) (defBody st) with
  | some b => some ⟨(defArgs st).args.length, N.length, b⟩
  | none => none
end NL

/-! The machine answers as the small language does: expressions. -/
namespace NL
open PySem PySem.Spec PyProof.Rows L2
/-! ### states -/
structure ER (m : List Addr) (H : Hp) (en : NL.Env) (σ : L2.St) : Prop where
  len : en.length = σ.length
  get : ∀ (i : Nat) (d : D), en[i]? = some (some d) → ∃ v, σ[i]? = some (some v) ∧ Rep m H d v
theorem ER.mono {m m' : List Addr} {H H' : Hp} {en : NL.Env} {σ : L2.St} (g : Gr m m' H H') (r : ER m H en σ) : ER m' H' en σ := ⟨r.len, fun i d h => by
  obtain ⟨v, h1, h2⟩ := r.get i d h
  exact ⟨v, h1, Rep.mono g _ _ h2⟩⟩
theorem ER.set {m : List Addr} {H : Hp} {en : NL.Env} {σ : L2.St} {d : D} {v : V} (r : ER m H en σ) (h : Rep m H d v) (i : Nat) : ER m H (en.set i (some d)) (σ.set i (some v)) := ⟨by simp [r.len], fun j e q => by
  by_cases hij : i = j
  · subst hij
    by_cases hl : i < en.length
    · rw [List.getElem?_set_self hl] at q
      cases q
      exact ⟨v, List.getElem?_set_self (by rw [← r.len]; exact hl), h⟩
    · rw [List.getElem?_eq_none (by simpa using hl)] at q
      cases q
  · rw [List.getElem?_set_ne hij] at q ⊢
    exact r.get j e q⟩
theorem ER.wipe {m : List Addr} {H : Hp} {en : NL.Env} {σ : L2.St} (r : ER m H en σ) : ∀ vs : List Nat, ER m H (wipeD en vs) (L2.wipe σ vs)
  | [] => r
  | i :: vs => by
    have ih := ER.wipe r vs
    refine ⟨by show (List.set _ _ _).length = (List.set _ _ _).length; rw [List.length_set, List.length_set]; exact ih.len, fun j e q => ?_⟩
    show ∃ v, (List.set _ _ _)[j]? = _ ∧ _
    have q : ((wipeD en vs).set i none)[j]? = some (some e) := q
    by_cases hij : i = j
    · subst hij
      by_cases hl : i < (wipeD en vs).length
      · rw [List.getElem?_set_self hl] at q; cases q
      · rw [List.getElem?_eq_none (by simpa using hl)] at q; cases q
    · rw [List.getElem?_set_ne hij] at q ⊢
      exact ih.get j e q
/-- an exception: its class, its dict -/
def XR (mg : Str → Option Value) (c : Str) (d : Option Nat) (m : List Addr) (cls : Value) (dd : Option Addr) : Prop := mg c = some cls ∧ dd = d.bind fun l => m[l]?
def Wd (mg : Str → Option Value) (W : WX) (σ : L2.St) : Str → Option Nat → List Addr → Store → Hp → Prop := fun c d m _ H => ∀ cls dd, XR mg c d m cls dd → W cls dd σ H
/-- a reading by what is answered -/
def tG {α β : Type} (RG : List Addr → Hp → α → β → Prop) (K : PySem.W.Frag) (mg : Str → Option Value) (W : WX) (f : NL.Env → M α) : L2.St → Hp → (β → Hp → Prop) → Prop := fun σ H Q =>
  ∃ m en S, ER m H en σ ∧ SR K m S H ∧ post K (Wd mg W σ) m H (f en S) (fun a m' _ H' => ∀ b, RG m' H' a b → Q b H')
abbrev tE := @tG D V Rep
abbrev tT := @tG Bool Bool fun _ _ a b => b = a
abbrev tA := @tG (List D) (List V) Reps
theorem tG_use {α β : Type} {RG : List Addr → Hp → α → β → Prop} {K : PySem.W.Frag} {mg : Str → Option Value} {W : WX} {f : NL.Env → M α} {m : List Addr} {en : NL.Env} {S : Store} {H : Hp} {σ : L2.St} {Q : β → Hp → Prop} {F : α → List Addr → Store → Hp → Prop} (er : ER m H en σ) (sr : SR K m S H) (h : post K (Wd mg W σ) m H (f en S) F)
    (k : ∀ a m' S' H' b, Gr m m' H H' → ER m' H' en σ → SR K m' S' H' → F a m' S' H' → RG m' H' a b → Q b H') : tG RG K mg W f σ H Q :=
  ⟨m, en, S, er, sr, post_mono h fun a m' S' H' g s hf b r => k a m' S' H' b g (er.mono g) s hf r⟩
theorem PE.imp {X : Cx} {e : Expr} {t t' : TE} (h : PE X e t) (k : ∀ σ H Q, t' σ H Q → t σ H Q) : PE X e t' := ⟨fun pins s σ H Q I q => h.run pins s σ H Q I (k σ H Q q)⟩
theorem PT.imp {X : Cx} {e : Expr} {t t' : TT} (h : PT X e t) (k : ∀ σ H Q, t' σ H Q → t σ H Q) : PT X e t' := ⟨fun pins s σ H Q I q => h.run pins s σ H Q I (k σ H Q q)⟩
theorem PA.imp {X : Cx} {es : List Expr} {t t' : TA} (h : PA X es t) (k : ∀ σ H Q, t' σ H Q → t σ H Q) : PA X es t' := ⟨fun pos pins s σ H Q I q => h.run pos pins s σ H Q I (k σ H Q q)⟩
theorem PW.imp {X : Cx} {e : Expr} {t t' : TT} (h : PW X e t) (k : ∀ σ H Q, t' σ H Q → t σ H Q) : PW X e t' := ⟨fun wh pins s σ H Q I q => h.run wh pins s σ H Q I (k σ H Q q)⟩
/-! ### the context -/
/-- what a def of ours promises -/
def spM (K : PySem.W.Frag) (mg : Str → Option Value) (ar : Nat) (g : List D → M D) : Sp := fun vs H Q E => ∃ m S ds, SR K m S H ∧ Reps m H ds vs ∧ ds.length = ar ∧
  post K (fun c d m' _ H' => ∀ cls dd, XR mg c d m' cls dd → E cls dd H') m H (g ds S) (fun d m' _ H' => ∀ w, Rep m' H' d w → Q w H')
structure FOk (X : Cx) (C : Nat → List D → M D) (ft : FTab) : Prop where
  own : ∀ f id ar, ft f = some (id, ar) → ∃ a fd ps k, FnOk X.prog X.w X.K X.mg X.base (L2.CX X.prog X.w) k a fd ps (spM X.K X.mg ar (C id)) ∧ Room k X.A ∧ X.mg f = some (.ref a) ∧ PySem.W.keepIn X.K (.ref a) = true ∧ Binds X.K fd ps []
  blt : ∀ b : Blt, X.mg b.name = none
  isi : X.mg "isinstance" = none
  rng : X.mg "range" = none
  ty : ∀ t : Ty, X.mg t.name = none
structure XOk (X : Cx) (sc : Scope) (N : List Str) (C : Nat → List D → M D) (ft : FTab) (W : WX) : Prop where
  hN : X.N = N
  sc : X.env.scope = sc
  nd : N.Nodup
  calm : X.calm = true
  hu : X.A.units + 65 < cLine
  fo : FOk X C ft
  tk : Takes X W
/-! ### shapes -/
def plainE : Expr → Bool
  | .Constant .. | .Name .. | .BinOp .. | .UnaryOp .. | .Compare .. | .BoolOp .. | .IfExp .. | .Tuple .. | .List .. | .Subscript .. | .Call .. | .ListComp .. => true
  | _ => false
theorem comE_plain {ft : FTab} {N : List Str} : ∀ {n : Nat} {sc : Scope} {e : Expr} {r : E}, comE ft N n sc e = some r → plainE e = true
  | 0, _, _, _, h => by unfold comE at h; cases h
  | n + 1, _, e, _, h => by
    unfold comE at h
    cases e <;> first | rfl | (dsimp only at h; cases h)
theorem star_plain {e : Expr} {es : List Expr} {env : PySem.Env} (h : plainE e = true) : starEach (e :: es) env = (false, eval e env) :: starEach es env := by
  cases e <;> first | rfl | cases h
theorem behind_plain {op : CmpOp} {e : Expr} (h : plainE e = true) : behindInMarks op e = false := by
  cases e <;> first | rfl | cases h
theorem folded_plain {e : Expr} {env : PySem.Env} {x : Value} (h : plainE e = true) : foldedSetIterable e env x = pure x := by
  cases e <;> first | rfl | cases h
theorem stars_none {pos : Pos} {env : PySem.Env} : ∀ {es : List Expr}, (∀ e ∈ es, plainE e = true) → (backTo pos (starEach es env)).any (·.1) = false
  | [], _ => rfl
  | e :: es, h => by
    rw [star_plain (h e List.mem_cons_self)]
    show (false || (backTo pos (starEach es env)).any (·.1)) = false
    rw [stars_none fun e he => h e (List.mem_cons_of_mem _ he)]
    rfl
theorem posOf_get {x : Str} : ∀ {N : List Str} {i : Nat}, posOf x N = some i → N[i]? = some x
  | [], _, h => by cases h
  | y :: r, i, h => by
    unfold posOf at h
    split at h
    · rename_i e; cases h; rw [e]; rfl
    · obtain ⟨j, hj, rfl⟩ := Option.map_eq_some_iff.mp h
      have z := posOf_get (N := r) hj
      simpa using z
theorem odd_no {x : Str} (h : ¬ oddName x = true) : (x == ("__debug__" : Str)) = false ∧ (x == ("__classdict__" : Str)) = false := by
  unfold oddName at h
  rw [Bool.or_eq_true, not_or] at h
  exact ⟨by simpa using h.1, by simpa using h.2⟩
theorem visOf_some {sc : Scope} {N : List Str} {x : Str} {i : Nat} (h : visOf sc N x = some i) : N[i]? = some x ∧ Vis sc x ∧ (x == ("__debug__" : Str)) = false ∧ (x == ("__classdict__" : Str)) = false := by
  unfold visOf at h
  split at h
  · cases h
  · rename_i ho
    obtain ⟨o1, o2⟩ := odd_no ho
    split at h
    · rename_i e; exact ⟨posOf_get h, .inl e, o1, o2⟩
    · rename_i e; exact ⟨posOf_get h, .inr (.inl e), o1, o2⟩
    · rename_i e; exact ⟨posOf_get h, .inr (.inr e), o1, o2⟩
    · cases h
theorem locOf_some {sc : Scope} {N : List Str} {x : Str} {i : Nat} (h : locOf sc N x = some i) : N[i]? = some x ∧ Loc sc x := by
  unfold locOf at h
  split at h
  · cases h
  · split at h
    · rename_i e; exact ⟨posOf_get h, .inl e⟩
    · rename_i e; exact ⟨posOf_get h, .inr e⟩
    · cases h
theorem isGl_some {sc : Scope} {x : Str} (h : isGl sc x = true) : sc.names.lookup x = some .globalImplicit ∧ (x == ("__debug__" : Str)) = false := by
  unfold isGl at h
  rw [Bool.and_eq_true] at h
  have ho : ¬ oddName x = true := by simpa using h.1
  exact ⟨of_decide_eq_true h.2, (odd_no ho).1⟩
theorem comL_len {f : Expr → Option E} : ∀ {es : List Expr} {r : Es}, comL f es = some r → r.len = es.length
  | [], _, h => by cases h; rfl
  | e :: es, _, h => by
    unfold comL at h
    cases e1 : f e with
    | none => rw [e1] at h; cases h
    | some a =>
      cases e2 : comL f es with
      | none => rw [e1, e2] at h; cases h
      | some b =>
        rw [e1, e2] at h
        cases h
        show b.len + 1 = es.length + 1
        rw [comL_len e2]
theorem comL_all {f : Expr → Option E} : ∀ {es : List Expr} {r : Es}, comL f es = some r → ∀ e ∈ es, ∃ a, f e = some a
  | [], _, _, e, he => by cases he
  | x :: es, _, h, e, he => by
    unfold comL at h
    cases e1 : f x with
    | none => rw [e1] at h; cases h
    | some a =>
      cases e2 : comL f es with
      | none => rw [e1, e2] at h; cases h
      | some b =>
        rcases List.mem_cons.mp he with rfl | he
        · exact ⟨a, e1⟩
        · exact comL_all e2 e he
theorem bopOf_op {o : Operator} {b : Bop} (h : bopOf o = some b) : b.op = o := by
  cases o <;> simp [bopOf] at h <;> subst h <;> rfl
theorem copOf_op (o : CmpOp) : (copOf o).op = o := by cases o <;> rfl
theorem bltOf_some {x : Str} {b : Blt} (h : bltOf x = some b) : x = b.name := by
  unfold bltOf at h
  repeat' split at h
  all_goals first | cases h | skip
  all_goals assumption
theorem tyOf_some {x : Str} {t : Ty} (h : tyOf x = some t) : x = t.name := by
  unfold tyOf at h
  repeat' split at h
  all_goals first | cases h | skip
  all_goals assumption
theorem boot_blt : ∀ b : Blt, bootBuiltins b.name = some b.val ∧ b.name ≠ ("__name__" : Str)
  | .abs => by decide +kernel
  | .int => by decide +kernel
  | .len => by decide +kernel
  | .min => by decide +kernel
  | .max => by decide +kernel
  | .list => by decide +kernel
  | .tuple => by decide +kernel
  | .sum => by decide +kernel
  | .sorted => by decide +kernel
theorem boot_ty : ∀ t : Ty, bootBuiltins t.name = some (.type t.nm) ∧ t.name ≠ ("__name__" : Str)
  | .int => by decide +kernel
  | .bool => by decide +kernel
  | .tuple => by decide +kernel
  | .list => by decide +kernel
  | .str => by decide +kernel
end NL

namespace NL
open PySem PySem.Spec PyProof.Rows L2
section
variable {X : Cx} {sc : Scope} {N : List Str} {C : Nat → List D → M D} {ft : FTab} {W : WX}
/-! ### one construct at a time -/
theorem p_con {c : Const} {d : D} {k : Nat} {pos : Pos} (h : conOf c = some d) : PE X (.Constant c k pos) (tE X.K X.mg W (evE C (.con d))) := by
  have fin : ∀ {v : V}, (∀ m H, Rep m H d v) → PE X (.Constant c k pos) (tC v) → PE X (.Constant c k pos) (tE X.K X.mg W (evE C (.con d))) := fun {v} hr hp =>
    PE.imp hp fun σ H Q ⟨m, en, S, er, sr, q⟩ => post_now sr q v (hr m H)
  cases c <;> simp [conOf] at h <;> subst h
  · exact fin (fun _ _ => .non) pe_non
  · exact fin (fun _ _ => .bl _) pe_bl
  · exact fin (fun _ _ => .int _) pe_int
  · exact fin (fun _ _ => .str _) pe_str
theorem p_var {x : Str} {i : Nat} {pos : Pos} (o : XOk X sc N C ft W) (h : visOf sc N x = some i) : PE X (.Name x pos) (tE X.K X.mg W (evE C (.var i))) := by
  obtain ⟨h1, h2, h3, h4⟩ := visOf_some h
  refine PE.imp (pe_var (i := i) (by rw [o.hN]; exact h1) (by rw [o.sc]; exact h2) h3 h4) fun σ H Q ⟨m, en, S, er, sr, q⟩ => ?_
  unfold evE at q
  cases e : en[i]? with
  | none => rw [e] at q; exact q.elim
  | some od =>
    cases od with
    | none => rw [e] at q; exact q.elim
    | some d =>
      rw [e] at q
      obtain ⟨v, e1, r⟩ := er.get i d e
      exact ⟨v, e1, post_now sr q v r⟩
variable {a b c e : Expr} {a' b' c' e' : E} {pos : Pos}
theorem p_bin {o : Operator} {o' : Bop} (ho : bopOf o = some o') (ha : PE X a (tE X.K X.mg W (evE C a'))) (hb : PE X b (tE X.K X.mg W (evE C b'))) : PE X (.BinOp a o b pos) (tE X.K X.mg W (evE C (.bin o' a' b'))) := by
  have hop := bopOf_op ho
  subst hop
  refine PE.imp (pe_op (op_binD o') ha hb) fun σ H Q ⟨m, en, S, er, sr, q⟩ => ?_
  unfold evE at q
  refine tG_use er sr (post_bind q) fun x m1 S1 H1 v g er1 sr1 q1 rx => tG_use er1 sr1 (post_bind q1) fun y m2 S2 H2 u g2 er2 sr2 q2 ry => ?_
  exact ⟨_, m2, S2, x, y, sr2, Rep.mono g2 _ _ rx, ry, q2⟩
theorem p_neg (ha : PE X a (tE X.K X.mg W (evE C a'))) : PE X (.UnaryOp .USub a pos) (tE X.K X.mg W (evE C (.neg a'))) := by
  refine PE.imp (pe_un un_neg ha) fun σ H Q ⟨m, en, S, er, sr, q⟩ => ?_
  unfold evE at q
  refine tG_use er sr (post_bind q) fun x m1 S1 H1 v g er1 sr1 q1 rx => ?_
  cases rx <;> try exact (show False from q1).elim
  exact ⟨_, rfl, post_val sr1 q1 (.int _)⟩
/-- what a test asks of a value -/
theorem tru_bind {α : Type} {K : PySem.W.Frag} {Ex : Str → Option Nat → List Addr → Store → Hp → Prop} {m : List Addr} {H : Hp} {S : Store} {x : D} {f : Bool → M α} {F : α → List Addr → Store → Hp → Prop} (h : post K Ex m H ((truD x >>= f) S) F) : ∃ t, x = .bl t ∧ post K Ex m H (f t S) F := by
  cases x <;> first | exact (show False from h).elim | exact ⟨_, rfl, h⟩
theorem p_not (ha : PT X a (tT X.K X.mg W fun en => evE C a' en >>= truD)) (hv : PE X a (tE X.K X.mg W (evE C a'))) : PE X (.UnaryOp .Not a pos) (tE X.K X.mg W (evE C (.not a'))) := by
  refine PE.imp (pe_not hv) fun σ H Q ⟨m, en, S, er, sr, q⟩ => ?_
  unfold evE at q
  rw [bind_as] at q
  refine tG_use er sr (post_bind q) fun x m1 S1 H1 v g er1 sr1 q1 rx => ?_
  obtain ⟨t, rfl, q2⟩ := tru_bind q1
  cases rx
  exact ⟨t, rfl, post_val sr1 q2 (.bl _)⟩
theorem p_notT (ha : PT X a (tT X.K X.mg W fun en => evE C a' en >>= truD)) : PT X (.UnaryOp .Not a pos) (tT X.K X.mg W fun en => evE C (.not a') en >>= truD) := by
  refine PT.imp (pt_not ha) fun σ H Q ⟨m, en, S, er, sr, q⟩ => ?_
  unfold evE at q
  refine tG_use er sr (post_bind (post_bind q)) fun t m1 S1 H1 v g er1 sr1 q1 rx => ?_
  subst rx
  exact post_now sr1 (post_now sr1 q1) _ rfl
theorem p_cmp {o : CmpOp} (w : XOk X sc N C ft W) (hp : plainE b = true) (ha : PE X a (tE X.K X.mg W (evE C a'))) (hb : PE X b (tE X.K X.mg W (evE C b'))) : PE X (.Compare a [o] [b] pos) (tE X.K X.mg W (evE C (.cmp (copOf o) a' b'))) := by
  have ho : OpR X (compareOp o) (rD X.K (cmpD (copOf o))) := by
    have z := op_cmpD (X := X) w.hu (copOf o)
    rw [copOf_op] at z
    exact z
  refine PE.imp (pe_cmpR ho ha hb (behind_plain hp)) fun σ H Q ⟨m, en, S, er, sr, q⟩ => ?_
  unfold evE at q
  refine tG_use er sr (post_bind q) fun x m1 S1 H1 v g er1 sr1 q1 rx => tG_use er1 sr1 (post_bind q1) fun y m2 S2 H2 u g2 er2 sr2 q2 ry => ?_
  exact ⟨_, m2, S2, x, y, sr2, Rep.mono g2 _ _ rx, ry, q2⟩
/-- behind a value that is tested -/
theorem tst_end {K : PySem.W.Frag} {Ex : Str → Option Nat → List Addr → Store → Hp → Prop} {m : List Addr} {H : Hp} {r : R D} {Q : Bool → Hp → Prop} (h : post K Ex m H r (fun d m1 S1 H1 => post K Ex m1 H1 (truD d S1) (fun b m' _ H' => ∀ c, c = b → Q c H'))) :
    post K Ex m H r (fun d m' _ H' => ∀ w, Rep m' H' d w → ∃ k, w = .bl k ∧ Q k H') := by
  refine post_mono h fun d m1 S1 H1 g s q w rw' => ?_
  cases rw' <;> try exact (show False from q).elim
  exact ⟨_, rfl, post_now s q _ rfl⟩
theorem p_cmpT {o : CmpOp} (w : XOk X sc N C ft W) (hp : plainE b = true) (ha : PE X a (tE X.K X.mg W (evE C a'))) (hb : PE X b (tE X.K X.mg W (evE C b'))) : PT X (.Compare a [o] [b] pos) (tT X.K X.mg W fun en => evE C (.cmp (copOf o) a' b') en >>= truD) := by
  have ho : OpR X (compareOp o) (rD X.K (cmpD (copOf o))) := by
    have z := op_cmpD (X := X) w.hu (copOf o)
    rw [copOf_op] at z
    exact z
  refine PT.imp (pt_cmpR ho ha hb (behind_plain hp)) fun σ H Q ⟨m, en, S, er, sr, q⟩ => ?_
  have q := tst_end (post_bind q)
  unfold evE at q
  refine tG_use er sr (post_bind q) fun x m1 S1 H1 v g er1 sr1 q1 rx => tG_use er1 sr1 (post_bind q1) fun y m2 S2 H2 u g2 er2 sr2 q2 ry => ?_
  exact ⟨_, m2, S2, x, y, sr2, Rep.mono g2 _ _ rx, ry, q2⟩
/-- a test of a value whose test is plain -/
theorem p_valT (h : PE X e (tE X.K X.mg W (evE C e'))) (he : ∀ whole, isTrue e X.env whole = (do let v ← whole; standAt e.pos; holding [v] (truthy v))) : PT X e (tT X.K X.mg W fun en => evE C e' en >>= truD) := by
  refine PT.imp (pt_val h he) fun σ H Q ⟨m, en, S, er, sr, q⟩ => ?_
  exact ⟨m, en, S, er, sr, tst_end (post_bind q)⟩
theorem lastMarks_plain {o o' : CmpOp} (hc : plainE c = true) : lastMarks [o, o'] [b, c] = false := by
  show behindInMarks o' c = false
  exact behind_plain hc
/-- the second link of a chain -/
theorem chn_link {o o' : Cop} {K : PySem.W.Frag} {mg : Str → Option Value} {σ : L2.St} {m2 : List Addr} {en : NL.Env} {S2 : Store} {H2 : Hp} {Q : VK} {x y : D} {v u : V} (er2 : ER m2 H2 en σ) (sr2 : SR K m2 S2 H2) (rx : Rep m2 H2 x v) (ry : Rep m2 H2 y u)
    (q2 : post K (Wd mg W σ) m2 H2 ((cmpD o x y >>= truD >>= fun t => if t = true then evE C c' en >>= fun z => cmpD o' y z else pure (.bl false)) S2) (fun d m' _ H' => ∀ w, Rep m' H' d w → Q w H')) :
    rD K (cmpD o) v u H2 fun z H3 => ∃ k, z = .bl k ∧ (if k = true then tE K mg W (evE C c') σ H3 fun w' H4 => rD K (cmpD o') u w' H4 Q else Q (.bl false) H3) := by
  refine ⟨_, m2, S2, x, y, sr2, rx, ry, post_mono (post_bind (post_bind q2)) fun d m3 S3 H3 g3 sr3 q3 z rz => ?_⟩
  cases rz <;> try exact (show False from q3).elim
  rename_i t
  have q5 := post_now sr3 q3
  refine ⟨t, rfl, ?_⟩
  cases t with
  | false =>
    rw [if_neg Bool.false_ne_true] at q5 ⊢
    exact post_val sr3 q5 (.bl _)
  | true =>
    rw [if_pos rfl] at q5 ⊢
    refine tG_use (er2.mono g3) sr3 (post_bind q5) fun z m4 S4 H4 u4 g4 er4 sr4 q6 rz => ?_
    exact ⟨_, m4, S4, y, z, sr4, Rep.mono (g3.trans g4) _ _ ry, rz, q6⟩
theorem p_chn {o o' : CmpOp} (w : XOk X sc N C ft W) (hp : plainE c = true) (ha : PE X a (tE X.K X.mg W (evE C a'))) (hb : PE X b (tE X.K X.mg W (evE C b'))) (hc : PE X c (tE X.K X.mg W (evE C c'))) :
    PE X (.Compare a [o, o'] [b, c] pos) (tE X.K X.mg W (evE C (.chn (copOf o) (copOf o') a' b' c'))) := by
  have hop : ∀ o, OpR X (compareOp o) (rD X.K (cmpD (copOf o))) := fun o => by
    have z := op_cmpD (X := X) w.hu (copOf o)
    rw [copOf_op] at z
    exact z
  refine PE.imp (pe_chain (hop o) (hop o') ha hb hc (lastMarks_plain hp)) fun σ H Q ⟨m, en, S, er, sr, q⟩ => ?_
  unfold evE at q
  refine tG_use er sr (post_bind q) fun x m1 S1 H1 v g er1 sr1 q1 rx => tG_use er1 sr1 (post_bind q1) fun y m2 S2 H2 u g2 er2 sr2 q2 ry => ?_
  exact chn_link er2 sr2 (Rep.mono g2 _ _ rx) ry q2
theorem p_chnT {o o' : CmpOp} (w : XOk X sc N C ft W) (hp : plainE c = true) (ha : PE X a (tE X.K X.mg W (evE C a'))) (hb : PE X b (tE X.K X.mg W (evE C b'))) (hc : PE X c (tE X.K X.mg W (evE C c'))) :
    PT X (.Compare a [o, o'] [b, c] pos) (tT X.K X.mg W fun en => evE C (.chn (copOf o) (copOf o') a' b' c') en >>= truD) := by
  have hop : ∀ o, OpR X (compareOp o) (rD X.K (cmpD (copOf o))) := fun o => by
    have z := op_cmpD (X := X) w.hu (copOf o)
    rw [copOf_op] at z
    exact z
  refine PT.imp (pt_chain (hop o) (hop o') ha hb hc (lastMarks_plain hp)) fun σ H Q ⟨m, en, S, er, sr, q⟩ => ?_
  have q := tst_end (post_bind q)
  unfold evE at q
  refine tG_use er sr (post_bind q) fun x m1 S1 H1 v g er1 sr1 q1 rx => tG_use er1 sr1 (post_bind q1) fun y m2 S2 H2 u g2 er2 sr2 q2 ry => ?_
  exact chn_link er2 sr2 (Rep.mono g2 _ _ rx) ry q2
/-! and, or, if -/
theorem p_and {rest : List Expr} (ha : PE X a (tE X.K X.mg W (evE C a'))) (hb : PE X (.BoolOp .And (b :: rest) pos) (tE X.K X.mg W (evE C b'))) : PE X (.BoolOp .And (a :: b :: rest) pos) (tE X.K X.mg W (evE C (.and a' b'))) := by
  refine PE.imp (pe_and ha hb) fun σ H Q ⟨m, en, S, er, sr, q⟩ => ?_
  unfold evE at q
  refine tG_use er sr (post_bind (post_bind q)) fun x m1 S1 H1 v g er1 sr1 q1 rx => ?_
  cases rx <;> try exact (show False from q1).elim
  rename_i t
  have q2 := post_now sr1 q1
  refine ⟨t, rfl, ?_⟩
  cases t with
  | true => rw [if_pos rfl] at q2 ⊢; exact ⟨m1, en, S1, er1, sr1, q2⟩
  | false => rw [if_neg Bool.false_ne_true] at q2 ⊢; exact post_val sr1 q2 (.bl _)
theorem p_or {rest : List Expr} (ha : PE X a (tE X.K X.mg W (evE C a'))) (hb : PE X (.BoolOp .Or (b :: rest) pos) (tE X.K X.mg W (evE C b'))) : PE X (.BoolOp .Or (a :: b :: rest) pos) (tE X.K X.mg W (evE C (.or a' b'))) := by
  refine PE.imp (pe_or ha hb) fun σ H Q ⟨m, en, S, er, sr, q⟩ => ?_
  unfold evE at q
  refine tG_use er sr (post_bind (post_bind q)) fun x m1 S1 H1 v g er1 sr1 q1 rx => ?_
  cases rx <;> try exact (show False from q1).elim
  rename_i t
  have q2 := post_now sr1 q1
  refine ⟨t, rfl, ?_⟩
  cases t with
  | true => rw [if_pos rfl] at q2 ⊢; exact post_val sr1 q2 (.bl _)
  | false => rw [if_neg Bool.false_ne_true] at q2 ⊢; exact ⟨m1, en, S1, er1, sr1, q2⟩
theorem and_tru (en : NL.Env) : (evE C (.and a' b') en >>= truD) = (evE C a' en >>= truD) >>= fun t => if t = true then evE C b' en >>= truD else pure false := by
  simp only [evE, bind_as, ite_bi, pure_bi]
  rfl
theorem or_tru (en : NL.Env) : (evE C (.or a' b') en >>= truD) = (evE C a' en >>= truD) >>= fun t => if t = true then pure true else evE C b' en >>= truD := by
  simp only [evE, bind_as, ite_bi, pure_bi]
  rfl
theorem p_andW {rest : List Expr} (ha : PT X a (tT X.K X.mg W fun en => evE C a' en >>= truD)) (hb : PW X (.BoolOp .And (b :: rest) pos) (tT X.K X.mg W fun en => evE C b' en >>= truD)) :
    PW X (.BoolOp .And (a :: b :: rest) pos) (tT X.K X.mg W fun en => evE C (.and a' b') en >>= truD) := by
  refine PW.imp (pw_and ha hb) fun σ H Q ⟨m, en, S, er, sr, q⟩ => ?_
  dsimp only at q
  rw [and_tru] at q
  refine tG_use er sr (post_bind q) fun t m1 S1 H1 v g er1 sr1 q1 rx => ?_
  subst rx
  cases v with
  | true => rw [if_pos rfl] at q1 ⊢; exact ⟨m1, en, S1, er1, sr1, q1⟩
  | false => rw [if_neg Bool.false_ne_true] at q1 ⊢; exact post_now sr1 q1 _ rfl
theorem p_orW {rest : List Expr} (ha : PT X a (tT X.K X.mg W fun en => evE C a' en >>= truD)) (hb : PW X (.BoolOp .Or (b :: rest) pos) (tT X.K X.mg W fun en => evE C b' en >>= truD)) :
    PW X (.BoolOp .Or (a :: b :: rest) pos) (tT X.K X.mg W fun en => evE C (.or a' b') en >>= truD) := by
  refine PW.imp (pw_or ha hb) fun σ H Q ⟨m, en, S, er, sr, q⟩ => ?_
  dsimp only at q
  rw [or_tru] at q
  refine tG_use er sr (post_bind q) fun t m1 S1 H1 v g er1 sr1 q1 rx => ?_
  subst rx
  cases v with
  | true => rw [if_pos rfl] at q1 ⊢; exact post_now sr1 q1 _ rfl
  | false => rw [if_neg Bool.false_ne_true] at q1 ⊢; exact ⟨m1, en, S1, er1, sr1, q1⟩
theorem p_boolE {f : Expr → Option E} : ∀ {es : List Expr} {op : BoolOp} {r : E}, comBool f op es = some r → (∀ e ∈ es, ∀ r, f e = some r → PE X e (tE X.K X.mg W (evE C r))) → PE X (.BoolOp op es pos) (tE X.K X.mg W (evE C r))
  | [], _, _, h, _ => by cases h
  | [e], op, r, h, hp => pe_one (hp e List.mem_cons_self r h)
  | e :: e2 :: es, op, r, h, hp => by
    unfold comBool at h
    cases e1 : f e with
    | none => rw [e1] at h; cases h
    | some a' =>
      cases e3 : comBool f op (e2 :: es) with
      | none => rw [e1, e3] at h; cases h
      | some b' =>
        rw [e1, e3] at h
        have ih := p_boolE e3 fun x hx => hp x (List.mem_cons_of_mem _ hx)
        have ha := hp e List.mem_cons_self a' e1
        cases op <;> cases h
        · exact p_and ha ih
        · exact p_or ha ih
theorem p_boolW {f : Expr → Option E} : ∀ {es : List Expr} {op : BoolOp} {r : E}, comBool f op es = some r → (∀ e ∈ es, ∀ r, f e = some r → PT X e (tT X.K X.mg W fun en => evE C r en >>= truD)) → PW X (.BoolOp op es pos) (tT X.K X.mg W fun en => evE C r en >>= truD)
  | [], _, _, h, _ => by cases h
  | [e], op, r, h, hp => by
    cases op with
    | And => exact pw_and1 (hp e List.mem_cons_self r h)
    | Or => exact pw_or1 (hp e List.mem_cons_self r h)
  | e :: e2 :: es, op, r, h, hp => by
    unfold comBool at h
    cases e1 : f e with
    | none => rw [e1] at h; cases h
    | some a' =>
      cases e3 : comBool f op (e2 :: es) with
      | none => rw [e1, e3] at h; cases h
      | some b' =>
        rw [e1, e3] at h
        have ih := p_boolW e3 fun x hx => hp x (List.mem_cons_of_mem _ hx)
        have ha := hp e List.mem_cons_self a' e1
        cases op <;> cases h
        · exact p_andW ha ih
        · exact p_orW ha ih
theorem p_ite (hc : PT X c (tT X.K X.mg W fun en => evE C c' en >>= truD)) (ha : PE X a (tE X.K X.mg W (evE C a'))) (hb : PE X b (tE X.K X.mg W (evE C b'))) : PE X (.IfExp c a b pos) (tE X.K X.mg W (evE C (.ite c' a' b'))) := by
  refine PE.imp (pe_ifExp hc ha hb) fun σ H Q ⟨m, en, S, er, sr, q⟩ => ?_
  unfold evE at q
  refine tG_use er sr (post_bind q) fun t m1 S1 H1 v g er1 sr1 q1 rx => ?_
  subst rx
  cases v with
  | true => rw [if_pos rfl] at q1 ⊢; exact ⟨m1, en, S1, er1, sr1, q1⟩
  | false => rw [if_neg Bool.false_ne_true] at q1 ⊢; exact ⟨m1, en, S1, er1, sr1, q1⟩
/-- if as a test -/
theorem pt_ife {tc ta tb : TT} (hc : PT X c tc) (ha : PT X a ta) (hb : PT X b tb) : PT X (.IfExp c a b pos) (fun σ H Q => tc σ H fun t H1 => if t = true then ta σ H1 Q else tb σ H1 Q) := by
  refine ⟨fun pins s σ H Q I h => ?_⟩
  show wpAny _ _ (do if ← isTrue c X.env (eval c X.env) then isTrue a X.env (eval a X.env) else isTrue b X.env (eval b X.env)) _ _ _
  refine wpAny_bind (thn (hc.run pins s σ H _ I h) fun t s1 ⟨H1, I1, q1⟩ => ?_)
  cases t with
  | true => rw [if_pos rfl] at q1 ⊢; exact ha.run pins s1 σ H1 Q I1 q1
  | false => rw [if_neg Bool.false_ne_true] at q1 ⊢; exact hb.run pins s1 σ H1 Q I1 q1
theorem p_iteT (hc : PT X c (tT X.K X.mg W fun en => evE C c' en >>= truD)) (ha : PT X a (tT X.K X.mg W fun en => evE C a' en >>= truD)) (hb : PT X b (tT X.K X.mg W fun en => evE C b' en >>= truD)) :
    PT X (.IfExp c a b pos) (tT X.K X.mg W fun en => evE C (.ite c' a' b') en >>= truD) := by
  refine PT.imp (pt_ife hc ha hb) fun σ H Q ⟨m, en, S, er, sr, q⟩ => ?_
  have e : (evE C (.ite c' a' b') en >>= truD) = (evE C c' en >>= truD) >>= fun t => if t = true then evE C a' en >>= truD else evE C b' en >>= truD := by
    simp only [evE, bind_as, ite_bi]
  dsimp only at q
  rw [e] at q
  refine tG_use er sr (post_bind q) fun t m1 S1 H1 v g er1 sr1 q1 rx => ?_
  subst rx
  cases v with
  | true => rw [if_pos rfl] at q1 ⊢; exact ⟨m1, en, S1, er1, sr1, q1⟩
  | false => rw [if_neg Bool.false_ne_true] at q1 ⊢; exact ⟨m1, en, S1, er1, sr1, q1⟩
/-! displays, places, slices, calls -/
theorem p_list {f : Expr → Option E} : ∀ {es : List Expr} {r : Es}, comL f es = some r → (∀ e ∈ es, ∀ r, f e = some r → plainE e = true ∧ PE X e (tE X.K X.mg W (evE C r))) → PA X es (tA X.K X.mg W (evEs C r))
  | [], _, h, _ => by
    cases h
    refine PA.imp pa_nil fun σ H Q ⟨m, en, S, er, sr, q⟩ => ?_
    exact post_now sr (show post _ _ _ _ (R.ok [] S) _ from q) [] .nil
  | e :: es, _, h, hp => by
    unfold comL at h
    cases e1 : f e with
    | none => rw [e1] at h; cases h
    | some a' =>
      cases e2 : comL f es with
      | none => rw [e1, e2] at h; cases h
      | some b' =>
        rw [e1, e2] at h
        cases h
        obtain ⟨h1, h2⟩ := hp e List.mem_cons_self a' e1
        refine PA.imp (pa_cons h2 (p_list e2 fun x hx => hp x (List.mem_cons_of_mem _ hx)) (star_plain h1)) fun σ H Q ⟨m, en, S, er, sr, q⟩ => ?_
        unfold evEs at q
        refine tG_use er sr (post_bind q) fun x m1 S1 H1 v g er1 sr1 q1 rx => tG_use er1 sr1 (post_bind q1) fun y m2 S2 H2 u g2 er2 sr2 q2 ry => ?_
        exact post_now sr2 (show post _ _ _ _ (R.ok (x :: y) S2) _ from q2) _ (.cons (Rep.mono g2 _ _ rx) ry)
theorem p_tup {es : List Expr} {es' : Es} {k : Nat} (h : PA X es (tA X.K X.mg W (evEs C es'))) : PE X (.Tuple es k pos) (tE X.K X.mg W (evE C (.tup es'))) := by
  refine PE.imp (pe_tup h) fun σ H Q ⟨m, en, S, er, sr, q⟩ => ?_
  unfold evE at q
  refine tG_use er sr (post_bind q) fun x m1 S1 H1 v g er1 sr1 q1 rx => ?_
  obtain ⟨hc, q2⟩ := post_ite q1
  exact ⟨by rw [← rx.length]; exact hc, post_tup sr1 q2 rx⟩
theorem p_lst {es : List Expr} {es' : Es} (h : PA X es (tA X.K X.mg W (evEs C es'))) : PE X (.List es pos) (tE X.K X.mg W (evE C (.lst es'))) := by
  refine PE.imp (pe_lst h) fun σ H Q ⟨m, en, S, er, sr, q⟩ => ?_
  unfold evE at q
  refine tG_use er sr (post_bind q) fun x m1 S1 H1 v g er1 sr1 q1 rx => ?_
  obtain ⟨hc, q2⟩ := post_ite q1
  exact ⟨by rw [← rx.length]; exact hc, post_alloc sr1 q2 rx⟩
theorem p_idx (hs : isSlice b = false) (ha : PE X a (tE X.K X.mg W (evE C a'))) (hb : PE X b (tE X.K X.mg W (evE C b'))) : PE X (.Subscript a b pos) (tE X.K X.mg W (evE C (.idx a' b'))) := by
  have pl : PlainIx b := by
    intro o i
    cases b <;> first | rfl | cases hs
  refine PE.imp (pe_ix ix_D ha hb pl) fun σ H Q ⟨m, en, S, er, sr, q⟩ => ?_
  unfold evE at q
  refine tG_use er sr (post_bind q) fun x m1 S1 H1 v g er1 sr1 q1 rx => tG_use er1 sr1 (post_bind q1) fun y m2 S2 H2 u g2 er2 sr2 q2 ry => ?_
  exact ⟨_, m2, S2, x, y, sr2, Rep.mono g2 _ _ rx, ry, q2⟩
end
end NL

namespace NL
open PySem PySem.Spec PyProof.Rows L2
section
variable {X : Cx} {sc : Scope} {N : List Str} {C : Nat → List D → M D} {ft : FTab} {W : WX} {a b c e : Expr} {a' b' c' e' : E} {pos : Pos}
/-! slices -/
theorem PO.imp {o : Option Expr} {t t' : TO} (h : PO X o t) (k : ∀ σ H Q, t' σ H Q → t σ H Q) : PO X o t' := ⟨fun pins s σ H Q I q => h.run pins s σ H Q I (k σ H Q q)⟩
/-- a bound: where it is there, an int -/
def tB1 (K : PySem.W.Frag) (mg : Str → Option Value) (W : WX) (f : NL.Env → M (Option Int)) : TO := @tG (Option Int) (Option Int) (fun _ _ a b => b = a) K mg W f
theorem p_bnd {f : Expr → Option E} {o : Option Expr} (h : comO f o = some e') (hp : ∀ e, o = some e → ∀ r, f e = some r → PE X e (tE X.K X.mg W (evE C r))) : PO X o (tB1 X.K X.mg W fun en => evE C e' en >>= bndM o.isSome) := by
  cases o with
  | none =>
    cases h
    refine PO.imp po_none fun σ H Q ⟨m, en, S, er, sr, q⟩ => ?_
    exact post_now sr (show post _ _ _ _ (R.ok none S) _ from q) none rfl
  | some e =>
    refine PO.imp (po_some (hp e rfl e' h)) fun σ H Q ⟨m, en, S, er, sr, q⟩ => ?_
    refine tG_use er sr (post_bind q) fun d m1 S1 H1 v g er1 sr1 q1 rv => ?_
    cases rv <;> try exact (show False from q1).elim
    exact ⟨_, rfl, post_now sr1 (show post _ _ _ _ (R.ok (some _) S1) _ from q1) _ rfl⟩
theorem p_slc {f : Expr → Option E} {lo hi : Option Expr} {lo' hi' : E} {p2 : Pos} (ha : PE X a (tE X.K X.mg W (evE C a'))) (h1 : comO f lo = some lo') (h2 : comO f hi = some hi')
    (hl : ∀ e, lo = some e → ∀ r, f e = some r → PE X e (tE X.K X.mg W (evE C r))) (hh : ∀ e, hi = some e → ∀ r, f e = some r → PE X e (tE X.K X.mg W (evE C r))) :
    PE X (.Subscript a (.Slice lo hi none p2) pos) (tE X.K X.mg W (evE C (.slc lo.isSome hi.isSome a' lo' hi'))) := by
  refine PE.imp (pe_slice sl_list ha (p_bnd (C := C) (W := W) h1 hl) (p_bnd (C := C) (W := W) h2 hh)) fun σ H Q ⟨m, en, S, er, sr, q⟩ => ?_
  unfold evE at q
  refine tG_use er sr (post_bind q) fun x m1 S1 H1 v g er1 sr1 q1 rx => tG_use er1 sr1 (post_bind q1) fun y m2 S2 H2 u g2 er2 sr2 q2 ry => tG_use er2 sr2 (post_bind q2) fun z m3 S3 H3 w g3 er3 sr3 q3 rz => ?_
  subst ry rz
  have rx3 := Rep.mono (g2.trans g3) _ _ rx
  cases rx3 <;> try exact (show False from q3).elim
  rename_i l a ea
  obtain ⟨o, e0, q4⟩ := getL_bind q3
  obtain ⟨vs, sq, rs⟩ := sr3.sq_at e0 ea
  exact ⟨a, vs, rfl, sq, post_alloc sr3 q4 (rs.cut _ _)⟩
/-! calls -/
theorem post_eq {α : Type} {K : PySem.W.Frag} {Ex : Str → Option Nat → List Addr → Store → Hp → Prop} {m : List Addr} {H : Hp} {r : R α} {F : α → List Addr → Store → Hp → Prop} (h : post K Ex m H r F) : post K Ex m H r (fun a m' S' H' => r = .ok a S' ∧ F a m' S' H') := by
  cases r with
  | ok a S => exact fun m' H' g s => ⟨rfl, h m' H' g s⟩
  | exc c d S => exact h
  | stuck => exact h
theorem evEs_len {en : NL.Env} : ∀ (es : Es) (S S' : Store) (xs : List D), evEs C es en S = .ok xs S' → xs.length = es.len
  | .nil, S, S', xs, h => by
    unfold evEs at h
    cases h
    rfl
  | .cons e es, S, S', xs, h => by
    unfold evEs at h
    rw [bind_eq] at h
    cases e1 : evE C e en S with
    | ok x S1 =>
      rw [e1] at h
      have h : (evEs C es en S1).bind (fun xs => (pure (x :: xs) : M (List D))) = .ok xs S' := h
      cases e2 : evEs C es en S1 with
      | ok ys S2 =>
        rw [e2] at h
        have h : (R.ok (x :: ys) S2 : R (List D)) = .ok xs S' := h
        cases h
        show ys.length + 1 = es.len + 1
        rw [evEs_len es S1 _ ys e2]
      | exc c d S2 => rw [e2] at h; cases h
      | stuck => rw [e2] at h; cases h
    | exc c d S1 => rw [e1] at h; cases h
    | stuck => rw [e1] at h; cases h
theorem p_call {n : Nat} {f : Str} {p : Pos} {es : List Expr} {id ar : Nat} {es' : Es} (w : XOk X sc N C ft W) (hg : isGl sc f = true) (hf : ft f = some (id, ar)) (hl : es'.len = ar) (hc : comL (comE ft N n sc) (e :: es) = some es')
    (h : PA X (e :: es) (tA X.K X.mg W (evEs C es'))) : PE X (.Call (.Name f p) (e :: es) [] pos) (tE X.K X.mg W (evE C (.call id es'))) := by
  obtain ⟨a, fd, ps, k, F, hr, hm, hk, hb⟩ := w.fo.own f id ar hf
  obtain ⟨g1, g2⟩ := isGl_some hg
  have gl : Gl X f := by show X.env.scope.names.lookup f = _; rw [w.sc]; exact g1
  have pl : ∀ x ∈ e :: es, plainE x = true := fun x hx => by
    obtain ⟨r, hr⟩ := comL_all hc x hx
    exact comE_plain hr
  refine PE.imp (pe_callS F hr gl hm hk hb (fun σ => passAt w.tk σ) h g2 (star_plain (pl e List.mem_cons_self)) (stars_none fun x hx => pl x (List.mem_cons_of_mem _ hx))) fun σ H Q ⟨m, en, S, er, sr, q⟩ => ?_
  unfold evE at q
  refine tG_use er sr (post_eq (post_bind q)) fun x m1 S1 H1 v g er1 sr1 ⟨qe, q1⟩ rx => ?_
  exact ⟨m1, S1, x, sr1, rx, (evEs_len es' S S1 x qe).trans hl, post_monoE q1 fun c d m' S' H' g s hw cls dd hx => hw cls dd hx⟩
theorem pe_blt {g : List V → Hp → VK → Prop} {es : List Expr} {t : TA} {p : Pos} (b : Blt) (hc : CallR X b.val g) (hg : Gl X b.name) (hm : X.mg b.name = none) (ha : PA X (e :: es) t) (hd : (b.name == ("__debug__" : Str)) = false)
    (he : starEach (e :: es) X.env = (false, eval e X.env) :: starEach es X.env) (hpl : (backTo pos (starEach es X.env)).any (·.1) = false) : PE X (.Call (.Name b.name p) (e :: es) [] pos) (tCB g t) := by
  obtain ⟨h1, h2⟩ := boot_blt b
  cases b
  · exact pe_callB hc hg hm h1 ha h2 hd he hpl
  · exact pe_callTy hc hg hm h1 ha h2 hd he hpl
  · exact pe_callB hc hg hm h1 ha h2 hd he hpl
  · exact pe_callB hc hg hm h1 ha h2 hd he hpl
  · exact pe_callB hc hg hm h1 ha h2 hd he hpl
  · exact pe_callTy hc hg hm h1 ha h2 hd he hpl
  · exact pe_callTy hc hg hm h1 ha h2 hd he hpl
  · exact pe_callB hc hg hm h1 ha h2 hd he hpl
  · exact pe_callB hc hg hm h1 ha h2 hd he hpl
theorem p_blt {n : Nat} {f : Str} {p : Pos} {es : List Expr} {b : Blt} {es' : Es} (w : XOk X sc N C ft W) (hg : isGl sc f = true) (hf : bltOf f = some b) (hc : comL (comE ft N n sc) (e :: es) = some es')
    (h : PA X (e :: es) (tA X.K X.mg W (evEs C es'))) : PE X (.Call (.Name f p) (e :: es) [] pos) (tE X.K X.mg W (evE C (.blt b es'))) := by
  have hn := bltOf_some hf
  subst hn
  obtain ⟨g1, g2⟩ := isGl_some hg
  have gl : Gl X b.name := by show X.env.scope.names.lookup b.name = _; rw [w.sc]; exact g1
  have pl : ∀ x ∈ e :: es, plainE x = true := fun x hx => by
    obtain ⟨r, hr⟩ := comL_all hc x hx
    exact comE_plain hr
  refine PE.imp (pe_blt b (call_bltD w.calm w.hu b) gl (w.fo.blt b) h g2 (star_plain (pl e List.mem_cons_self)) (stars_none fun x hx => pl x (List.mem_cons_of_mem _ hx))) fun σ H Q ⟨m, en, S, er, sr, q⟩ => ?_
  unfold evE at q
  refine tG_use er sr (post_bind q) fun x m1 S1 H1 v g er1 sr1 q1 rx => ?_
  exact ⟨_, m1, S1, x, sr1, rx, q1⟩
theorem p_isi {f t : Str} {p p2 : Pos} {T : Ty} (w : XOk X sc N C ft W) (hg : isGl sc f = true) (hf : f = ("isinstance" : Str)) (hg2 : isGl sc t = true) (ht : tyOf t = some T) (hp : plainE e = true) (h : PE X e (tE X.K X.mg W (evE C e'))) :
    PE X (.Call (.Name f p) [e, .Name t p2] [] pos) (tE X.K X.mg W (evE C (.isi e' T))) := by
  subst hf
  have hn := tyOf_some ht
  subst hn
  obtain ⟨g1, g2⟩ := isGl_some hg
  obtain ⟨g3, g4⟩ := isGl_some hg2
  have gl : Gl X "isinstance" := by show X.env.scope.names.lookup _ = _; rw [w.sc]; exact g1
  have gl2 : Gl X T.name := by show X.env.scope.names.lookup _ = _; rw [w.sc]; exact g3
  have pT : PE X (.Name T.name p2) (tC (.ty T.nm)) := pe_bltn gl2 (w.fo.ty T) (boot_ty T).1 rfl (boot_ty T).2 g4
  refine PE.imp (pe_callB call_isi gl w.fo.isi (by decide +kernel) (pa_cons h (pa_cons pT pa_nil) (star_plain hp)) (by decide) g2 (star_plain hp) rfl) fun σ H Q ⟨m, en, S, er, sr, q⟩ => ?_
  unfold evE at q
  refine tG_use er sr (post_bind q) fun x m1 S1 H1 v g er1 sr1 q1 rx => ?_
  exact isi_of sr1 rx q1
end
end NL

namespace NL
open PySem PySem.Spec PyProof.Rows L2
/-! ### what is walked -/
def CkOk : Option (Nat × Ob) → Store → Prop
  | none, _ => True
  | some (l, o), S => S[l]? = some o
def Gives (K : PySem.W.Frag) (m : List Addr) (H : Hp) (p : List D × Option (Nat × Ob)) (J : L2.It) : Prop :=
  ∀ (i : Nat) (m' : List Addr) (S' : Store) (H' : Hp), Gr m m' H H' → SR K m' S' H' → CkOk p.2 S' → (i = p.1.length → J.stop i H') ∧
    ∀ d, p.1[i]? = some d → J.go i H' ∧ ∀ x H'', J.yld i H' x H'' → Gr m' m' H' H'' ∧ SR K m' S' H'' ∧ Rep m' H'' d x
def tI (K : PySem.W.Frag) (mg : Str → Option Value) (W : WX) (f : NL.Env → M (List D × Option (Nat × Ob))) : TI := fun σ H R =>
  ∃ m en S, ER m H en σ ∧ SR K m S H ∧ post K (Wd mg W σ) m H (f en S) (fun p m' _ H' => ∀ J, Gives K m' H' p J → R J H')
theorem gives_tup {K : PySem.W.Frag} {m : List Addr} {H : Hp} {a : Addr} {xs : List D} {vs : List V} (ea : H a = some (.tup vs)) (ra : Reps m H xs vs) : Gives K m H (xs, none) (Itt K a) := by
  intro i m' S' H' g s _
  have ea' := g.tup _ _ ea
  have ra' := Reps.mono g _ _ ra
  refine ⟨fun h => ⟨vs, SqT.of ea', by rw [← ra.length, h]; exact Nat.le_refl _⟩, fun d hd => ?_⟩
  obtain ⟨v, h1, h2⟩ := ra'.get hd
  refine ⟨⟨vs, v, SqT.of ea', h1⟩, fun x H'' ⟨e, hy⟩ => ?_⟩
  subst e
  have := hy vs (SqT.of ea')
  rw [h1] at this
  cases this
  exact ⟨Gr.refl _ _, s, h2⟩
theorem gives_lst {K : PySem.W.Frag} {m : List Addr} {H : Hp} {a : Addr} {l : Nat} {o : Ob} (ea : m[l]? = some a) : Gives K m H (items o, some (l, o)) (Itl K a) := by
  intro i m' S' H' g s hc
  obtain ⟨vs, q, rs⟩ := s.sq_at hc (g.pre _ _ ea)
  refine ⟨fun h => ⟨vs, q, by rw [← rs.length, h]; exact Nat.le_refl _⟩, fun d hd => ?_⟩
  obtain ⟨v, h1, h2⟩ := rs.get hd
  refine ⟨⟨vs, v, q, h1⟩, fun x H'' ⟨e, hy⟩ => ?_⟩
  subst e
  have := hy vs q
  rw [h1] at this
  cases this
  exact ⟨Gr.refl _ _, s, h2⟩
theorem gives_rng {K : PySem.W.Frag} {m : List Addr} {H : Hp} {lo : Int} {n : Nat} : Gives K m H ((List.range n).map fun k => D.int (lo + (k : Nat)), none) (Itr lo n) := by
  intro i m' S' H' g s _
  refine ⟨fun h => ?_, fun d hd => ?_⟩
  · show n ≤ i
    rw [h]; simp
  · rw [List.getElem?_map] at hd
    obtain ⟨j, hj, rfl⟩ := Option.map_eq_some_iff.mp hd
    obtain ⟨hlt, hj⟩ := List.getElem?_eq_some_iff.mp hj
    have hlt : i < n := by simpa using hlt
    have hj : i = j := by simpa using hj
    subst hj
    refine ⟨hlt, fun x H'' ⟨e, hy⟩ => ?_⟩
    subst e hy
    exact ⟨Gr.refl _ _, s, .int _⟩
section
variable {X : Cx} {sc : Scope} {N : List Str} {C : Nat → List D → M D} {ft : FTab} {W : WX} {a b c e tg : Expr} {a' b' c' e' : E} {pos : Pos}
theorem PI.imp {t t' : TI} (h : PI X tg e t) (k : ∀ σ H Q, t' σ H Q → t σ H Q) : PI X tg e t' := ⟨fun pins s σ H Q I q => h.run pins s σ H Q I (k σ H Q q)⟩
theorem i_val (h : PE X e (tE X.K X.mg W (evE C e'))) : PI X tg e (tI X.K X.mg W (evIt C (.val e'))) := by
  refine ⟨fun pins s σ H R I ⟨m, en, S, er, sr, q⟩ => ?_⟩
  unfold evIt at q
  refine thn (h.run pins s σ H (fun v H1 => ∃ d m1 S1, SR X.K m1 S1 H1 ∧ Rep m1 H1 d v ∧ post X.K (Wd X.mg W σ) m1 H1 (iterD d S1) (fun p m' _ H' => ∀ J, Gives X.K m' H' p J → R J H')) I
    (tG_use er sr (post_bind q) fun d m1 S1 H1 v g er1 sr1 q1 rx => ⟨d, m1, S1, sr1, rx, q1⟩)) fun u s1 ⟨v, H1, I1, r1, d, m1, S1, sr1, rx, q1⟩ => ?_
  cases rx <;> try exact (show False from q1).elim
  · rename_i a xs vs ea ra
    cases r1
    have k := post_now sr1 q1 (Itt X.K a) (gives_tup ea ra)
    obtain ⟨its, rv, p, hz⟩ := I1.tuple (SqT.of ea)
    refine wpAny_pyIter_tuple (show s1.heap.IsTuple a its.toArray from p) ?_
    refine ⟨s1.heap.objs.size, [s1.heap.objs.size], _, _, H1, rfl, I1.kept (t' := s1.toks) fun b o e => Heap.get?_push_of_some _ e, turn_tuple a _, ⟨_, Heap.get?_push_size _ rfl, rfl, rfl⟩, fun b hb => ?_, k⟩
    rw [List.mem_singleton.mp hb]
    exact I1.fpOk (Nat.le_refl _) (I1.hok.fresh (Nat.le_refl _))
  · rename_i l a ea
    cases r1
    unfold iterD at q1
    cases e0 : S1[l]? with
    | none => dsimp only at q1; rw [e0] at q1; exact q1.elim
    | some o =>
      dsimp only at q1
      rw [e0] at q1
      have k := post_now sr1 q1 (Itl X.K a) (gives_lst ea)
      obtain ⟨vs, sq, rs⟩ := sr1.sq_at e0 ea
      obtain ⟨its, rv, p, hz⟩ := I1.list sq
      refine wpAny_pyIter_list p.isList ?_
      refine ⟨s1.heap.objs.size, [s1.heap.objs.size], _, _, H1, rfl, I1.kept (t' := s1.toks) fun b o e => Heap.get?_push_of_some _ e, turn_list a _, ⟨_, Heap.get?_push_size _ rfl, rfl, rfl⟩, fun b hb => ?_, k⟩
      rw [List.mem_singleton.mp hb]
      exact I1.fpOk (Nat.le_refl _) (I1.hok.fresh (Nat.le_refl _))
theorem rngD_some {K : PySem.W.Frag} {Ex : Str → Option Nat → List Addr → Store → Hp → Prop} {m : List Addr} {H : Hp} {S : Store} {x y : D} {α : Type} {f : List D → M α} {F : α → List Addr → Store → Hp → Prop} (h : post K Ex m H ((rngD x y >>= f) S) F) :
    ∃ i j, x = .int i ∧ y = .int j ∧ (-(2 ^ 62) ≤ i ∧ i < 2 ^ 62 ∧ -(2 ^ 62) ≤ j ∧ j < 2 ^ 62) ∧ post K Ex m H (f ((List.range (j - i).toNat).map fun k => .int (i + (k : Nat))) S) F := by
  cases x <;> cases y <;> try exact (show False from h).elim
  rename_i i j
  by_cases hc : -(2 ^ 62) ≤ i ∧ i < 2 ^ 62 ∧ -(2 ^ 62) ≤ j ∧ j < 2 ^ 62
  · refine ⟨i, j, rfl, rfl, hc, ?_⟩
    have e : rngD (.int i) (.int j) = pure ((List.range (j - i).toNat).map fun k => .int (i + (k : Nat))) := if_pos hc
    rw [e] at h
    exact h
  · have e : rngD (.int i) (.int j) = die := if_neg hc
    rw [e] at h
    exact (show False from h).elim
theorem i_rng1 {g : Str} {p : Pos} (w : XOk X sc N C ft W) (hg : isGl sc g = true) (hn : g = ("range" : Str)) (hp : plainE b = true) (hb : PE X b (tE X.K X.mg W (evE C b'))) : PI X tg (.Call (.Name g p) [b] [] pos) (tI X.K X.mg W (evIt C (.rng1 b'))) := by
  subst hn
  have gl : Gl X "range" := by show X.env.scope.names.lookup _ = _; rw [w.sc]; exact (isGl_some hg).1
  refine PI.imp (pi_range1 gl w.fo.rng (pa_cons hb pa_nil (star_plain hp)) (star_plain hp)) fun σ H R ⟨m, en, S, er, sr, q⟩ => ?_
  unfold evIt at q
  refine tG_use er sr (post_bind q) fun d m1 S1 H1 v g er1 sr1 q1 rx => ?_
  obtain ⟨i, j, ei, ej, ⟨_, _, h3, h4⟩, q2⟩ := rngD_some q1
  cases ei
  subst ej
  cases rx
  refine ⟨j, rfl, h3, h4, ?_⟩
  have z := post_now sr1 q2 (Itr 0 (j - 0).toNat) gives_rng
  rw [Int.sub_zero] at z
  exact z
theorem i_rng2 {g : Str} {p : Pos} (w : XOk X sc N C ft W) (hg : isGl sc g = true) (hn : g = ("range" : Str)) (hpa : plainE a = true) (hpb : plainE b = true) (ha : PE X a (tE X.K X.mg W (evE C a'))) (hb : PE X b (tE X.K X.mg W (evE C b'))) :
    PI X tg (.Call (.Name g p) [a, b] [] pos) (tI X.K X.mg W (evIt C (.rng2 a' b'))) := by
  subst hn
  have gl : Gl X "range" := by show X.env.scope.names.lookup _ = _; rw [w.sc]; exact (isGl_some hg).1
  refine PI.imp (pi_range2 gl w.fo.rng (pa_cons ha (pa_cons hb pa_nil (star_plain hpb)) (star_plain hpa)) (by rw [star_plain hpa, star_plain hpb]; rfl) (star_plain hpb)) fun σ H R ⟨m, en, S, er, sr, q⟩ => ?_
  unfold evIt at q
  refine tG_use er sr (post_bind q) fun d m1 S1 H1 v g er1 sr1 q1 rx => tG_use er1 sr1 (post_bind q1) fun d2 m2 S2 H2 v2 g2 er2 sr2 q2 rx2 => ?_
  obtain ⟨i, j, ei, ej, hc, q3⟩ := rngD_some q2
  subst ei
  subst ej
  cases rx
  cases rx2
  exact ⟨i, j, rfl, hc, post_now sr2 q3 _ gives_rng⟩
theorem i_of {f : Scope → Expr → Option E} {it : NL.It} (w : XOk X sc N C ft W) (h : comE.comIt f sc e = some it) (hp : ∀ e r, f sc e = some r → plainE e = true ∧ PE X e (tE X.K X.mg W (evE C r))) : PI X tg e (tI X.K X.mg W (evIt C it)) ∧ plainE e = true := by
  have dflt : (f sc e).map NL.It.val = some it → PI X tg e (tI X.K X.mg W (evIt C it)) ∧ plainE e = true := fun h => by
    obtain ⟨r, hr, rfl⟩ := Option.map_eq_some_iff.mp h
    obtain ⟨h1, h2⟩ := hp e r hr
    exact ⟨i_val h2, h1⟩
  unfold comE.comIt at h
  split at h
  · rename_i g p b pos
    split at h
    · rename_i hn
      split at h
      · rename_i hg
        obtain ⟨r, hr, rfl⟩ := Option.map_eq_some_iff.mp h
        obtain ⟨h1, h2⟩ := hp b r hr
        exact ⟨i_rng1 w hg hn h1 h2, rfl⟩
      · cases h
    · exact dflt h
  · rename_i g p a b pos
    split at h
    · rename_i hn
      split at h
      · rename_i hg
        cases e1 : f sc a with
        | none => rw [e1] at h; cases h
        | some a' =>
          cases e2 : f sc b with
          | none => rw [e1, e2] at h; cases h
          | some b' =>
            rw [e1, e2] at h
            cases h
            obtain ⟨h1, h2⟩ := hp a a' e1
            obtain ⟨h3, h4⟩ := hp b b' e2
            exact ⟨i_rng2 w hg hn h1 h3 h2 h4, rfl⟩
      · cases h
    · exact dflt h
  · exact dflt h
/-! ### targets -/
def setV (σ : L2.St) : List Nat → List V → L2.St
  | i :: is, v :: vs => setV (σ.set i (some v)) is vs
  | _, _ => σ
theorem wipe_set {σ : L2.St} {i : Nat} {v : Option V} : ∀ {vs : List Nat}, i ∈ vs → L2.wipe (σ.set i v) vs = L2.wipe σ vs
  | [], h => by cases h
  | j :: vs, h => by
    show (L2.wipe (σ.set i v) vs).set j none = (L2.wipe σ vs).set j none
    by_cases hm : i ∈ vs
    · rw [wipe_set hm]
    · have e : i = j := by
        rcases List.mem_cons.mp h with h | h
        · exact h
        · exact absurd h hm
      subst e
      have key : ∀ {vs : List Nat}, i ∉ vs → L2.wipe (σ.set i v) vs = (L2.wipe σ vs).set i v := fun {vs} => by
        induction vs with
        | nil => intro _; rfl
        | cons k vs ih =>
          intro hn
          show (L2.wipe (σ.set i v) vs).set k none = ((L2.wipe σ vs).set k none).set i v
          rw [ih fun z => hn (List.mem_cons_of_mem _ z)]
          exact List.set_comm _ _ fun z => hn (by rw [z]; exact List.mem_cons_self)
      rw [key hm, List.set_set]
theorem wipe_setV : ∀ {is : List Nat} {xs : List V} {σ : L2.St} {vs : List Nat}, (∀ i ∈ is, i ∈ vs) → L2.wipe (NL.setV σ is xs) vs = L2.wipe σ vs
  | [], _, _, _, _ => rfl
  | _ :: _, [], _, _, _ => rfl
  | i :: is, x :: xs, σ, vs, h => by
    show L2.wipe (NL.setV (σ.set i (some x)) is xs) vs = _
    rw [wipe_setV fun j hj => h j (List.mem_cons_of_mem _ hj), wipe_set (h i List.mem_cons_self)]
def tTg (K : PySem.W.Frag) (t : Tg) : TG := fun v σ H Q => ∃ Ex m en S d, ER m H en σ ∧ SR K m S H ∧ Rep m H d v ∧ post K Ex m H (bindT t d en S) (fun en' m' _ H' => ∀ σ', ER m' H' en' σ' → (∀ vs, (∀ i ∈ t.ixs, i ∈ vs) → L2.wipe σ' vs = L2.wipe σ vs) → Q σ' H')
theorem PG.imp {t t' : TG} (h : PG X tg t) (k : ∀ v σ H Q, t' v σ H Q → t v σ H Q) : PG X tg t' := ⟨fun pins s σ H v u Q I r q => h.run pins s σ H v u Q I r (k v σ H Q q)⟩
theorem PG.or {t t' : TG} (h : PG X tg t) (h' : PG X tg t') : PG X tg (fun v σ H Q => t v σ H Q ∨ t' v σ H Q) := ⟨fun pins s σ H v u Q I r q => q.elim (h.run pins s σ H v u Q I r) (h'.run pins s σ H v u Q I r)⟩
/-- where names may be stored -/
def Put (X : Cx) (f : Str → Option Nat) : Prop := ∀ x i, f x = some i → X.N[i]? = some x ∧ Loc X.env.scope x ∧ (X.fn x = true ∨ X.env.scope.names.lookup x = some .local)
theorem ER.setAll {m : List Addr} {H : Hp} : ∀ {is : List Nat} {ds : List D} {vs : List V} {en : NL.Env} {σ : L2.St}, ER m H en σ → Reps m H ds vs → ER m H (setAll en is ds) (setV σ is vs)
  | [], _, _, _, _, r, _ => r
  | _ :: _, [], _, _, _, r, h => by cases h; exact r
  | i :: is, d :: ds, _, en, σ, r, h => by
    cases h with
    | cons h1 h2 =>
      rename_i v vs
      exact ER.setAll (is := is) (ds := ds) (vs := vs) (en := en.set i (some d)) (σ := σ.set i (some v)) (r.set h1 i) h2
theorem names_pgs (nd : X.N.Nodup) {f : Str → Option Nat} (hf : Put X f) : ∀ {es : List Expr} {is : List Nat}, namesOf f es = some is → PGs X es (fun vs σ H Q => vs.length = is.length ∧ Q (setV σ is vs) H) ∧ (assignEach es X.env).length = is.length ∧ (assignEach es X.env).findIdx? (·.1) = none
  | [], _, h => by
    cases h
    refine ⟨⟨fun pins s σ H vs us Q I r ⟨hl, q⟩ => ?_⟩, rfl, rfl⟩
    have e : vs = [] := List.eq_nil_of_length_eq_zero hl
    subst e
    exact pgs_nil.run pins s σ H [] us Q I r ⟨rfl, q⟩
  | e :: es, is, h => by
    cases e <;> simp only [namesOf] at h <;> try cases h
    rename_i x p
    cases e1 : f x with
    | none => rw [e1] at h; cases h
    | some i =>
      cases e2 : namesOf f es with
      | none => rw [e1, e2] at h; cases h
      | some is' =>
        rw [e1, e2] at h
        cases h
        obtain ⟨h1, h2, h3⟩ := hf x i e1
        obtain ⟨k1, k2, k3⟩ := names_pgs nd hf e2
        refine ⟨⟨fun pins s σ H vs us Q I r ⟨hl, q⟩ => ?_⟩, by show _ + 1 = _; rw [k2]; rfl, ?_⟩
        · cases vs with
          | nil => cases hl
          | cons v vs => exact (pgs_cons (pg_name nd h1 h2 h3) k1 rfl).run pins s σ H (v :: vs) us Q I r ⟨v, vs, rfl, Nat.succ.inj hl, q⟩
        · show List.findIdx? (·.1) ((false, _) :: _) = none
          rw [List.findIdx?_cons]
          simp [k3]
theorem post_iteP {α : Type} {K : PySem.W.Frag} {Ex : Str → Option Nat → List Addr → Store → Hp → Prop} {m : List Addr} {H : Hp} {S : Store} {d : D} {n : Nat} {f : List D → M α} {F : α → List Addr → Store → Hp → Prop} (h : post K Ex m H ((unpD n d >>= f) S) F) :
    ∃ xs, xs.length = n ∧ post K Ex m H (f xs S) F ∧ (d = .tup xs ∨ ∃ l o, d = .ref l ∧ S[l]? = some o ∧ items o = xs) := by
  cases d <;> try exact (show False from h).elim
  · rename_i xs
    by_cases hc : xs.length = n
    · have e : unpD n (.tup xs) = pure xs := if_pos hc
      rw [e] at h
      exact ⟨xs, hc, h, .inl rfl⟩
    · have e : unpD n (.tup xs) = die := if_neg hc
      rw [e] at h
      exact (show False from h).elim
  · rename_i l
    have e : (unpD n (.ref l) >>= f) = getL l >>= fun xs => (if xs.length = n then pure xs else die) >>= f := bind_as _ _ _
    rw [e] at h
    obtain ⟨o, e0, h⟩ := getL_bind h
    by_cases hc : (items o).length = n
    · rw [if_pos hc] at h
      exact ⟨items o, hc, h, .inr ⟨l, o, rfl, e0, rfl⟩⟩
    · rw [if_neg hc] at h
      exact (show False from h).elim
theorem g_of (hc : X.calm = true) (nd : X.N.Nodup) {f : Str → Option Nat} (hf : Put X f) {t : Tg} (h : comTg f tg = some t) : PG X tg (tTg X.K t) := by
  cases tg <;> simp only [comTg] at h <;> try cases h
  · rename_i x p
    obtain ⟨i, hi, rfl⟩ := Option.map_eq_some_iff.mp h
    obtain ⟨h1, h2, h3⟩ := hf x i hi
    refine PG.imp (pg_name nd h1 h2 h3) fun v σ H Q ⟨Ex, m, en, S, d, er, sr, rd, q⟩ => ?_
    exact post_now sr (show post _ _ _ _ (R.ok (en.set i (some d)) S) _ from q) _ (er.set rd i) fun vs hv => wipe_set (hv i List.mem_cons_self)
  · rename_i es k p
    obtain ⟨is, hi, rfl⟩ := Option.map_eq_some_iff.mp h
    obtain ⟨k1, k2, k3⟩ := names_pgs nd hf hi
    refine PG.imp (PG.or (pg_tup hc k1 k2 k3) (pg_lst hc k1 k2 k3)) fun v σ H Q ⟨Ex, m, en, S, d, er, sr, rd, q⟩ => ?_
    obtain ⟨xs, hl, q2, hx⟩ := post_iteP (show post _ _ _ _ ((unpD is.length d >>= fun ds => pure (NL.setAll en is ds)) S) _ from q)
    have q3 := post_now sr (show post _ _ _ _ (R.ok (NL.setAll en is xs) S) _ from q2)
    rcases hx with rfl | ⟨l, o, rfl, e0, rfl⟩
    · cases rd with
      | tup ea ra => exact .inl ⟨_, _, rfl, SqT.of ea, by rw [← ra.length]; exact hl, by rw [← ra.length]; exact hl, q3 _ (er.setAll ra) fun vs hv => wipe_setV hv⟩
    · cases rd with
      | ref ea =>
        obtain ⟨vs, sq, rs⟩ := sr.sq_at e0 ea
        exact .inr ⟨_, vs, rfl, sq, by rw [← rs.length]; exact hl, by rw [← rs.length]; exact hl, q3 _ (er.setAll rs) fun vs hv => wipe_setV hv⟩
end
end NL

namespace NL
open PySem PySem.Spec PyProof.Rows L2
/-! ### comprehensions -/
theorem ok_bind {α β : Type} {m : M α} {f : α → M β} {S S2 : Store} {b : β} (h : (m >>= f) S = .ok b S2) : ∃ a S1, m S = .ok a S1 ∧ f a S1 = .ok b S2 := by
  rw [bind_eq] at h
  cases e : m S with
  | ok a S1 => rw [e] at h; exact ⟨a, S1, rfl, h⟩
  | exc c d S1 => rw [e] at h; cases h
  | stuck => rw [e] at h; cases h
theorem post_of {α : Type} {K : PySem.W.Frag} {Ex : Str → Option Nat → List Addr → Store → Hp → Prop} {m : List Addr} {H : Hp} {r : R α} {a : α} {S : Store} {F : α → List Addr → Store → Hp → Prop} (h : r = .ok a S) (k : ∀ m' H', Gr m m' H H' → SR K m' S H' → F a m' S H') : post K Ex m H r F := by
  rw [h]; exact k
theorem ckD_ok {p : Option (Nat × Ob)} {S S' : Store} {u : Unit} (h : ckD p S = .ok u S') : CkOk p S ∧ S' = S := by
  cases p with
  | none => cases h; exact ⟨trivial, rfl⟩
  | some q =>
    obtain ⟨l, o⟩ := q
    simp only [ckD] at h
    split at h
    · rename_i e; cases h; exact ⟨e, rfl⟩
    · cases h
theorem bindT_same {t : Tg} {d : D} {en en1 : NL.Env} {S S1 : Store} (h : bindT t d en S = .ok en1 S1) : S1 = S := by
  cases t with
  | nm i => cases h; rfl
  | tp is =>
    obtain ⟨xs, S2, h1, h2⟩ := ok_bind (show (unpD is.length d >>= fun ds => pure (NL.setAll en is ds)) S = .ok en1 S1 from h)
    cases h2
    cases d <;> try cases h1
    · simp only [unpD] at h1
      split at h1
      · cases h1; rfl
      · cases h1
    · obtain ⟨ys, S3, h3, h4⟩ := ok_bind (show (getL _ >>= fun xs => if xs.length = is.length then pure xs else die) S = .ok xs S1 from h1)
      unfold getL at h3
      split at h3
      · cases h3
        split at h4
        · cases h4; rfl
        · cases h4
      · cases h3
theorem wipe_wipe {σ : L2.St} {vs : List Nat} : ∀ {ws : List Nat}, (∀ i ∈ ws, i ∈ vs) → L2.wipe (L2.wipe σ ws) vs = L2.wipe σ vs
  | [], _ => rfl
  | i :: ws, h => by
    show L2.wipe ((L2.wipe σ ws).set i none) vs = _
    rw [wipe_set (h i List.mem_cons_self), wipe_wipe fun j hj => h j (List.mem_cons_of_mem _ hj)]
theorem pushD_ok {l : Nat} {d : D} {S S' : Store} {u : Unit} (h : pushD l d S = .ok u S') : ∃ xs, S[l]? = some (.lst xs) ∧ xs.length < sizeLine ∧ S' = S.set l (.lst (xs ++ [d])) := by
  unfold pushD at h
  split at h
  · rename_i xs e
    split at h
    · rename_i hl; cases h; exact ⟨xs, e, hl, rfl⟩
    · cases h
  · cases h
section
variable {X : Cx} {sc : Scope} {N : List Str} {C : Nat → List D → M D} {ft : FTab} {W : WX} {tg iter elt : Expr} {c' e' : E} {pos : Pos}
abbrev W0 : WX := fun _ _ _ _ => False
def CompOk (X : Cx) (W : WX) (C : Nat → List D → M D) (tg iter : Expr) (ifs : List Expr) (elt : Expr) (scope : Scope) (e' : E) : Prop := ∃ (own : List (Str × Nat)) (wi : TI) (g : TG) (tt : TT) (te : TE), PI X tg iter wi ∧ BlkOk X.N X.env.scope scope own ∧
  (∀ (s : Shared) (H : Hp) (Ca : Addr) (cl : List (Str × Addr)) (fp : List Addr), PG (X.blk s H scope (compEnvC scope cl Ca X.env) fp) tg g) ∧ (∀ (s : Shared) (H : Hp) (Ca : Addr) (cl : List (Str × Addr)) (fp : List Addr), PTs (X.blk s H scope (compEnvC scope cl Ca X.env) fp) ifs tt) ∧
  (∀ (s : Shared) (H : Hp) (Ca : Addr) (cl : List (Str × Addr)) (fp : List Addr), PE (X.blk s H scope (compEnvC scope cl Ca X.env) fp) elt te) ∧ (∀ x, foldedSetIterable iter X.env x = pure x) ∧ ∀ σ H Q, tE X.K X.mg W (evE C e') σ H Q → tLc wi g tt te (own.map (·.2)) σ H Q
theorem p_compC {scope : Scope} {own : List (Str × Nat)} {t : Tg} {it' : NL.It} {ifs : List Expr} (w : XOk X sc N C ft W) (hb : blkC N sc scope own = true) (hp : plainE iter = true) (hi : PI X tg iter (tI X.K X.mg W (evIt C it'))) (hix : ∀ i ∈ t.ixs, i ∈ own.map (·.2))
    (hg : ∀ (s : Shared) (H : Hp) (Ca : Addr) (cl : List (Str × Addr)) (fp : List Addr), PG (X.blk s H scope (compEnvC scope cl Ca X.env) fp) tg (tTg X.K t))
    (ht : ∀ (s : Shared) (H : Hp) (Ca : Addr) (cl : List (Str × Addr)) (fp : List Addr), PTs (X.blk s H scope (compEnvC scope cl Ca X.env) fp) ifs (tT X.K X.mg W0 fun en => evE C c' en >>= truD))
    (he : ∀ (s : Shared) (H : Hp) (Ca : Addr) (cl : List (Str × Addr)) (fp : List Addr), PE (X.blk s H scope (compEnvC scope cl Ca X.env) fp) elt (tE X.K X.mg W0 (evE C e'))) :
    CompOk X W C tg iter ifs elt scope (.comp (own.map (·.2)) t it' c' e') := by
  refine ⟨own, _, _, _, _, hi, (blkOk_by (by rw [w.hN, w.sc]; exact hb)), hg, ht, he, (fun x => folded_plain hp), fun σ H Q ⟨m, en, S, er, sr, q⟩ => ?_⟩
  unfold evE at q
  refine ⟨m, en, S, er, sr, post_mono (post_bind q) fun p m1 S1 H1 g1 sr1 q1 J gv D hD => ?_⟩
  -- the block answers
  have er1 := er.mono g1
  have q2 : post X.K (Wd X.mg W σ) m1 H1 (noX (cmpL (ckD p.2) (fun d => bindT t d (wipeD en (own.map (·.2)))) (fun en' => evE C c' en' >>= truD) (fun en' => evE C e' en') S1.length p.1 >>= fun _ => pure (.ref S1.length)) (S1 ++ [.lst []])) (fun d m' _ H' => ∀ w, Rep m' H' d w → Q w H') := q1
  have g2 : Gr m1 (m1 ++ [D]) H1 (upd H1 D (.lst [])) := Gr.push_new hD
  have sr2 : SR X.K (m1 ++ [D]) (S1 ++ [.lst []]) (upd H1 D (.lst [])) := sr1.alloc hD .nil
  have hl2 : (m1 ++ [D])[S1.length]? = some D := by rw [← sr1.len]; simp
  unfold noX at q2
  cases er2 : (cmpL (ckD p.2) (fun d => bindT t d (wipeD en (own.map (·.2)))) (fun en' => evE C c' en' >>= truD) (fun en' => evE C e' en') S1.length p.1 >>= fun _ => (pure (.ref S1.length) : M NL.D)) (S1 ++ [.lst []]) with
  | exc _ _ _ => rw [er2] at q2; exact q2.elim
  | stuck => rw [er2] at q2; exact q2.elim
  | ok r Sf =>
    rw [er2] at q2
    obtain ⟨u, Sf', hrun, hret⟩ := ok_bind er2
    cases hret
    have fin : ∀ m' H', Gr m1 m' H1 H' → SR X.K m' Sf H' → m'[S1.length]? = some D → Q (.ref D) H' := fun m' H' g s e => q2 m' H' g s _ (.ref e)
    let Wi : Nat → Nat → Hp → Prop := fun i k Hh => ∃ mm Sh, Gr m1 mm H1 Hh ∧ SR X.K mm Sh Hh ∧ i ≤ p.1.length ∧ k = p.1.length - i ∧ mm[S1.length]? = some D ∧
      cmpL (ckD p.2) (fun d => bindT t d (wipeD en (own.map (·.2)))) (fun en' => evE C c' en' >>= truD) (fun en' => evE C e' en') S1.length (p.1.drop i) Sh = .ok () Sf
    refine ⟨Wi, ⟨_, m1 ++ [D], _, g2, sr2, Nat.zero_le _, rfl, hl2, hrun⟩, ?_⟩
    rintro i k Hh ⟨mm, Sh, gm, sm, hi1, rfl, hD1, hr⟩
    by_cases hlt : i < p.1.length
    · right
      have hx : p.1[i]? = some p.1[i] := List.getElem?_eq_getElem hlt
      rw [List.drop_eq_getElem_cons hlt] at hr
      unfold cmpL at hr
      obtain ⟨u1, Sa, k1, hr1⟩ := ok_bind hr
      obtain ⟨ck, e1⟩ := ckD_ok k1
      rw [e1] at hr1
      obtain ⟨en1, Sb, k2, hr2⟩ := ok_bind hr1
      rw [bindT_same k2] at hr2 k2
      obtain ⟨tb, Sc, k3, hr3⟩ := ok_bind hr2
      have gi := (gv i mm Sh Hh gm sm ck).2 _ hx
      refine ⟨gi.1, fun H' => ∃ k', Wi (i + 1) k' H' ∧ k' = p.1.length - (i + 1), fun H' ⟨k', hw, hk⟩ => ⟨k', by omega, hw⟩, fun x H' hy => ?_⟩
      obtain ⟨ga, sa, ra⟩ := gi.2 x H' hy
      refine ⟨E0x, mm, wipeD en (own.map (·.2)), Sh, _, (er1.mono (gm.trans ga)).wipe _, sa, ra, post_of k2 fun mb Hb gb sb σ2 erb hsame => ⟨(hsame _ hix).trans (wipe_wipe fun i hi => hi), ?_⟩⟩
      refine ⟨mb, en1, Sh, erb, sb, post_of k3 fun mc Hc gc sc' b eb => ?_⟩
      subst eb
      have gall : Gr m1 mc H1 Hc := gm.trans (ga.trans (gb.trans gc))
      cases b with
      | false =>
        rw [if_neg Bool.false_ne_true] at hr3 ⊢
        exact ⟨_, ⟨mc, Sc, gall, sc', hlt, rfl, (ga.trans (gb.trans gc)).pre _ _ hD1, hr3⟩, rfl⟩
      | true =>
        rw [if_pos rfl] at hr3 ⊢
        obtain ⟨d, Sd, k4, hr4⟩ := ok_bind hr3
        obtain ⟨u2, Se, k5, hr5⟩ := ok_bind hr4
        obtain ⟨xs, p1, p2, rfl⟩ := pushD_ok k5
        refine ⟨mc, en1, Sc, erb.mono gc, sc', post_of k4 fun md Hd gd sd y ry => ?_⟩
        have hDd := (ga.trans (gb.trans (gc.trans gd))).pre _ _ hD1
        obtain ⟨vs, hv, rs⟩ := sd.lst_at p1 hDd
        refine ⟨vs, hv, by rw [← rs.length]; exact p2, _, ⟨md, _, (gall.trans gd).trans (Gr.write hv), sd.write p1 hDd hv (rs.append (.cons ry .nil)), hlt, rfl, hDd, hr5⟩, rfl⟩
    · left
      have e : i = p.1.length := by omega
      subst e
      rw [List.drop_length] at hr
      unfold cmpL at hr
      obtain ⟨ck, e1⟩ := ckD_ok hr
      subst e1
      exact ⟨(gv _ mm _ Hh gm sm ck).1 rfl, fin mm Hh gm sm hD1⟩
theorem p_compE {scope : Scope} {ifs : List Expr} (w : XOk X sc N C ft W) (h : CompOk X W C tg iter ifs elt scope e') : PE X (.ListComp elt [⟨tg, iter, ifs, 0⟩] scope pos) (tE X.K X.mg W (evE C e')) := by
  obtain ⟨own, wi, g, tt, te, hi, hb, hg, ht, he, hs, k⟩ := h
  exact PE.imp (pe_lc w.calm (by rw [w.hN]; exact w.nd) hi hb hg ht he hs) k
end
end NL

namespace NL
open PySem PySem.Spec PyProof.Rows L2
section
variable {N : List Str} {C : Nat → List D → M D} {ft : FTab}
theorem FOk.blk {X : Cx} (h : FOk X C ft) (s : Shared) (H : Hp) (scope : Scope) (ce : PySem.Env) (fp : List Addr) : FOk (X.blk s H scope ce fp) C ft := ⟨h.own, h.blt, h.isi, h.rng, h.ty⟩
theorem XOk.blk {X : Cx} {sc : Scope} {W : WX} (w : XOk X sc N C ft W) (s : Shared) (H : Hp) (scope : Scope) (cl : List (Str × Addr)) (Ca : Addr) (fp : List Addr) : XOk (X.blk s H scope (compEnvC scope cl Ca X.env) fp) (relS scope sc) N C ft W0 :=
  ⟨w.hN, by rw [← w.sc]; rfl, w.nd, w.calm, w.hu, w.fo.blk s H scope _ fp, takes0⟩
theorem put_blk {X : Cx} {sc : Scope} {W : WX} (w : XOk X sc N C ft W) (s : Shared) (H : Hp) (scope : Scope) (cl : List (Str × Addr)) (Ca : Addr) (fp : List Addr) : Put (X.blk s H scope (compEnvC scope cl Ca X.env) fp) (locOf scope N) := fun x i h => by
  obtain ⟨h1, h2⟩ := locOf_some h
  have e : (X.blk s H scope (compEnvC scope cl Ca X.env) fp).env.scope = relS scope X.env.scope := rfl
  refine ⟨by rw [← w.hN] at h1; exact h1, ?_, ?_⟩
  · rw [e]
    rcases h2 with h2 | h2
    · exact .inl (lookup_relS_keep (by decide) h2)
    · exact .inr (lookup_relS_keep (by decide) h2)
  · rcases h2 with h2 | h2
    · exact .inr (by rw [e]; exact lookup_relS_keep (by decide) h2)
    · exact .inl (by show (scope.names.lookup x == some .cell) = true; rw [h2]; rfl)
def valE : Expr → Bool
  | .Constant .. | .Name .. | .BinOp .. | .Tuple .. | .List .. | .Subscript .. | .Call .. | .ListComp .. => true
  | .UnaryOp .USub .. => true
  | _ => false
theorem val_plain {e : Expr} (h : valE e = true) (env : PySem.Env) : ∀ whole, isTrue e env whole = (do let v ← whole; standAt e.pos; holding [v] (truthy v)) := by
  intro whole
  cases e <;> first | rfl | (rename_i o a p; cases o <;> first | rfl | exact absurd h Bool.false_ne_true) | exact absurd h Bool.false_ne_true
abbrev Both (X : Cx) (C : Nat → List D → M D) (W : WX) (e : Expr) (e' : E) : Prop := PE X e (tE X.K X.mg W (evE C e')) ∧ PT X e (tT X.K X.mg W fun en => evE C e' en >>= truD)
theorem both_val {X : Cx} {W : WX} {e : Expr} {e' : E} (hp : PE X e (tE X.K X.mg W (evE C e'))) (h : valE e = true) : Both X C W e e' := ⟨hp, p_valT hp (val_plain h X.env)⟩
theorem comE_ok : ∀ (n : Nat) (X : Cx) (sc : Scope) (W : WX) (e : Expr) (e' : E), XOk X sc N C ft W → comE ft N n sc e = some e' → Both X C W e e' := by
  intro n
  induction n with
  | zero => intro X sc W e e' w h; unfold comE at h; cases h
  | succ n ih =>
    intro X sc W e e' w h
    have hpl := comE_plain h
    have many : ∀ {es : List Expr} {r : Es}, comL (comE ft N n sc) es = some r → PA X es (tA X.K X.mg W (evEs C r)) := fun {es r} hc => p_list hc fun x _ r hr => ⟨comE_plain hr, (ih X sc W x r w hr).1⟩
    cases e with
    | Constant c k pos =>
      simp only [comE] at h
      obtain ⟨d, hd, rfl⟩ := Option.map_eq_some_iff.mp h
      exact both_val (p_con hd) rfl
    | Name x pos =>
      simp only [comE] at h
      obtain ⟨i, hi, rfl⟩ := Option.map_eq_some_iff.mp h
      exact both_val (p_var w hi) rfl
    | BinOp a o b pos =>
      simp only [comE] at h
      split at h
      · rename_i o' a' b' e1 e2 e3
        cases h
        exact both_val (p_bin e1 (ih X sc W a a' w e2).1 (ih X sc W b b' w e3).1) rfl
      · cases h
    | UnaryOp o a pos =>
      cases o <;> simp only [comE] at h <;> try cases h
      · obtain ⟨a', ha, rfl⟩ := Option.map_eq_some_iff.mp h
        obtain ⟨k1, k2⟩ := ih X sc W a a' w ha
        exact ⟨p_not k2 k1, p_notT k2⟩
      · obtain ⟨a', ha, rfl⟩ := Option.map_eq_some_iff.mp h
        exact both_val (p_neg (ih X sc W a a' w ha).1) rfl
    | Compare a os bs pos =>
      rcases os with _ | ⟨o, _ | ⟨o2, _ | ⟨o3, os⟩⟩⟩ <;> rcases bs with _ | ⟨b, _ | ⟨b2, _ | ⟨b3, bs⟩⟩⟩ <;> simp only [comE] at h <;> try cases h
      · split at h
        · rename_i a' b' e1 e2
          cases h
          have k1 := (ih X sc W a a' w e1).1
          have k2 := (ih X sc W b b' w e2).1
          exact ⟨p_cmp w (comE_plain e2) k1 k2, p_cmpT w (comE_plain e2) k1 k2⟩
        · cases h
      · split at h
        · rename_i a' b' c' e1 e2 e3
          cases h
          have k1 := (ih X sc W a a' w e1).1
          have k2 := (ih X sc W b b' w e2).1
          have k3 := (ih X sc W b2 c' w e3).1
          exact ⟨p_chn w (comE_plain e3) k1 k2 k3, p_chnT w (comE_plain e3) k1 k2 k3⟩
        · cases h
    | BoolOp o es pos =>
      simp only [comE] at h
      exact ⟨p_boolE h fun x _ r hr => (ih X sc W x r w hr).1, (p_boolW h fun x _ r hr => (ih X sc W x r w hr).2).pt⟩
    | IfExp c a b pos =>
      simp only [comE] at h
      split at h
      · rename_i c' a' b' e1 e2 e3
        cases h
        obtain ⟨c1, c2⟩ := ih X sc W c c' w e1
        obtain ⟨a1, a2⟩ := ih X sc W a a' w e2
        obtain ⟨b1, b2⟩ := ih X sc W b b' w e3
        exact ⟨p_ite c2 a1 b1, p_iteT c2 a2 b2⟩
      · cases h
    | Tuple es k pos =>
      simp only [comE] at h
      obtain ⟨r, hr, rfl⟩ := Option.map_eq_some_iff.mp h
      exact both_val (p_tup (many hr)) rfl
    | List es pos =>
      simp only [comE] at h
      obtain ⟨r, hr, rfl⟩ := Option.map_eq_some_iff.mp h
      exact both_val (p_lst (many hr)) rfl
    | Subscript a i pos =>
      have idx : (if isSlice i = true then none else match comE ft N n sc a, comE ft N n sc i with
          | some a, some i => some (E.idx a i)
          | _, _ => none) = some e' → Both X C W (.Subscript a i pos) e' := fun h => by
        split at h
        · cases h
        · rename_i hs
          split at h
          · rename_i a' i' e1 e2
            cases h
            exact both_val (p_idx (by simpa using hs) (ih X sc W a a' w e1).1 (ih X sc W i i' w e2).1) rfl
          · cases h
      cases i with
      | Slice lo hi st p2 =>
        cases st with
        | none =>
          simp only [comE] at h
          split at h
          · rename_i a' l' h' e1 e2 e3
            cases h
            exact both_val (p_slc (ih X sc W a a' w e1).1 e2 e3 (fun x _ r hr => (ih X sc W x r w hr).1) (fun x _ r hr => (ih X sc W x r w hr).1)) rfl
          · cases h
        | some st => simp only [comE] at h; exact idx h
      | _ => simp only [comE] at h; exact idx h
    | Call f es kw pos =>
      cases f <;> simp only [comE] at h <;> try cases h
      rename_i f p
      cases kw with
      | cons _ _ => first | cases h | (dsimp only at h; cases h)
      | nil =>
        try dsimp only at h
        split at h
        · rename_i hg
          split at h
          · rename_i hf
            rcases es with _ | ⟨a, _ | ⟨b, _ | ⟨c, es⟩⟩⟩ <;> (try simp only at h) <;> try cases h
            cases b <;> (try simp only at h) <;> try cases h
            rename_i t p2
            split at h
            · rename_i hg2
              split at h
              · rename_i a' T e1 e2
                cases h
                exact both_val (p_isi w hg hf hg2 e2 (comE_plain e1) (ih X sc W a a' w e1).1) rfl
              · cases h
            · cases h
          · split at h
            · rename_i b x xs e1 e2
              cases h
              cases es with
              | nil => cases e2
              | cons e0 es => exact both_val (p_blt w hg e1 e2 (many e2)) rfl
            · cases h
            · rename_i x xs e1 e2
              split at h
              · rename_i id ar e3
                split at h
                · rename_i har
                  cases h
                  cases es with
                  | nil => cases e2
                  | cons e0 es => exact both_val (p_call w hg e3 har.symm e2 (many e2)) rfl
                · cases h
              · cases h
            · cases h
        · cases h
    | ListComp elt gens scope pos =>
      rcases gens with _ | ⟨⟨tg, it, ifs, as⟩, _ | ⟨g2, gens⟩⟩ <;> simp only [comE] at h <;> try cases h
      split at h
      · cases h
      · rename_i has
        have has : as = 0 := Decidable.not_not.mp has
        subst has
        split at h
        · rename_i hb
          split at h
          · rename_i t it' c' el' e1 e2 e3 e4
            cases h
            obtain ⟨e1a, e1b⟩ := Option.filter_eq_some_iff.mp e1
            obtain ⟨hi, hpi⟩ := i_of (tg := tg) w e2 fun x r hr => ⟨comE_plain hr, (ih X sc W x r w hr).1⟩
            refine both_val (p_compE w (p_compC w hb hpi hi ?_ ?_ ?_ ?_)) rfl
            · intro i hm
              rw [List.all_eq_true] at e1b
              exact of_decide_eq_true (e1b i hm)
            · intro s H Ca cl fp
              exact g_of (X := X.blk s H scope (compEnvC scope cl Ca X.env) fp) w.calm (by show X.N.Nodup; rw [w.hN]; exact w.nd) (put_blk w s H scope cl Ca fp) e1a
            · intro s H Ca cl fp
              have w2 := w.blk s H scope cl Ca fp
              rcases ifs with _ | ⟨c, _ | ⟨c2, ifs⟩⟩
              · cases e3
                exact ⟨fun pins s1 σ H1 Q I ⟨m, en, S, er, sr, q⟩ => pts_nil.run pins s1 σ H1 Q I (post_now sr (show post _ _ _ _ (R.ok true S) _ from q) true rfl)⟩
              · exact pts_one (ih _ _ W0 c c' w2 e3).2
              · cases e3
            · intro s H Ca cl fp
              exact (ih _ _ W0 elt el' (w.blk s H scope cl Ca fp) e4).1
          · cases h
        · cases h
    | _ => cases hpl
theorem comE_comp {n : Nat} {X : Cx} {sc : Scope} {W : WX} {elt : Expr} {gens : List Comprehension} {scope : Scope} {pos : Pos} {e' : E} (w : XOk X sc N C ft W) (h : comE ft N (n + 1) sc (.ListComp elt gens scope pos) = some e') :
    ∃ tg it ifs, gens = [⟨tg, it, ifs, 0⟩] ∧ CompOk X W C tg it ifs elt scope e' := by
  rcases gens with _ | ⟨⟨tg, it, ifs, as⟩, _ | ⟨g2, gens⟩⟩ <;> simp only [comE] at h <;> try cases h
  split at h
  · cases h
  · rename_i has
    have has : as = 0 := Decidable.not_not.mp has
    subst has
    split at h
    · rename_i hb
      split at h
      · rename_i t it' c' el' e1 e2 e3 e4
        cases h
        obtain ⟨e1a, e1b⟩ := Option.filter_eq_some_iff.mp e1
        obtain ⟨hi, hpi⟩ := i_of (tg := tg) w e2 fun x r hr => ⟨comE_plain hr, (comE_ok n X sc W x r w hr).1⟩
        refine ⟨_, _, _, rfl, p_compC w hb hpi hi ?_ ?_ ?_ ?_⟩
        · intro i hm
          rw [List.all_eq_true] at e1b
          exact of_decide_eq_true (e1b i hm)
        · intro s H Ca cl fp
          exact g_of (X := X.blk s H scope (compEnvC scope cl Ca X.env) fp) w.calm (by show X.N.Nodup; rw [w.hN]; exact w.nd) (put_blk w s H scope cl Ca fp) e1a
        · intro s H Ca cl fp
          have w2 := w.blk s H scope cl Ca fp
          rcases ifs with _ | ⟨c, _ | ⟨c2, ifs⟩⟩
          · cases e3
            exact ⟨fun pins s1 σ H1 Q I ⟨m, en, S, er, sr, q⟩ => pts_nil.run pins s1 σ H1 Q I (post_now sr (show post _ _ _ _ (R.ok true S) _ from q) true rfl)⟩
          · exact pts_one (comE_ok n _ _ W0 c c' w2 e3).2
          · cases e3
        · intro s H Ca cl fp
          exact (comE_ok n _ _ W0 elt el' (w.blk s H scope cl Ca fp) e4).1
      · cases h
    · cases h
end
end NL

/-! Statements. -/
namespace NL
open PySem PySem.Spec PyProof.Rows L2
def flowP (mg : Str → Option Value) (W : WX) (Dn : Ends) : Flow → List Addr → Store → Hp → Prop
  | .nx en, m, _, H => ∀ σ, ER m H en σ → Dn.nx σ H
  | .brk en, m, _, H => ∀ σ, ER m H en σ → Dn.bk σ H
  | .cnt en, m, _, H => ∀ σ, ER m H en σ → Dn.ct σ H
  | .ret d, m, _, H => ∀ v, Rep m H d v → Dn.rt v H
  | .exc c d en, m, _, H => ∀ σ cls dd, ER m H en σ → XR mg c d m cls dd → W cls dd σ H
def tS (K : PySem.W.Frag) (mg : Str → Option Value) (W : WX) (f : NL.Env → M Flow) : TS := fun Dn σ H => ∃ m en S, ER m H en σ ∧ SR K m S H ∧ post K E0x m H (f en S) (flowP mg W Dn)
theorem PS.imp {X : Cx} {s : Stmt} {t t' : TS} (h : PS X s t) (k : ∀ D σ H, t' D σ H → t D σ H) : PS X s t' := ⟨fun pins s σ H D I q => h.run pins s σ H D I (k D σ H q)⟩
theorem PSs.imp {X : Cx} {s : List Stmt} {t t' : TS} (h : PSs X s t) (k : ∀ D σ H, t' D σ H → t D σ H) : PSs X s t' := ⟨fun pins s σ H D I q => h.run pins s σ H D I (k D σ H q)⟩
theorem lift_post {α : Type} {K : PySem.W.Frag} {mg : Str → Option Value} {W : WX} {Dn : Ends} {m : List Addr} {H : Hp} {en : NL.Env} {f : M α} {k : α → M Flow} {S : Store} (h : post K E0x m H (lift en f k S) (flowP mg W Dn)) {σ : L2.St} (er : ER m H en σ) :
    post K (Wd mg W σ) m H (f S) (fun a m1 S1 H1 => post K E0x m1 H1 (k a S1) (flowP mg W Dn)) := by
  unfold lift at h
  cases e : f S with
  | ok a S1 =>
    rw [e] at h
    exact fun m' H' g s => post_later g (show post K E0x m H (k a S1) (flowP mg W Dn) from h)
  | exc c d S1 =>
    rw [e] at h
    exact fun m' H' g s cls dd hx => h m' H' g s σ cls dd (er.mono g) hx
  | stuck => rw [e] at h; exact h
theorem flow_nx {K : PySem.W.Frag} {mg : Str → Option Value} {W : WX} {Dn : Ends} {m : List Addr} {H : Hp} {en : NL.Env} {S : Store} {σ : L2.St} (s : SR K m S H) (h : post K E0x m H ((pure (.nx en) : M Flow) S) (flowP mg W Dn)) (er : ER m H en σ) : Dn.nx σ H :=
  post_now s (show post K E0x m H (.ok (Flow.nx en) S) _ from h) σ er
structure SOk (X : Cx) (sco : Scope) (N : List Str) (C : Nat → List D → M D) (ft : FTab) (W : WX) : Prop extends XOk X sco N C ft W where
  put : Put X (locOf sco N)
  pass : PassesOwn (model X.prog X.w) X.A X.env X.xe
  kind : sco.kind = ScopeKind.function
section
variable {X : Cx} {sc : Scope} {N : List Str} {C : Nat → List D → M D} {ft : FTab} {W : WX} {a b c e : Expr} {a' b' c' e' : E} {pos : Pos}
theorem SOk.nd' (w : SOk X sc N C ft W) : X.N.Nodup := by rw [w.hN]; exact w.nd
theorem swaps_plain {env : PySem.Env} {tg : Option Expr} {l : Nat} (h : plainE e = true) (hc : isComp e = false) : swapsWith e tg l env = pure false := by
  cases e <;> first | rfl | exact absurd h Bool.false_ne_true | exact absurd hc (by intro z; cases z)
theorem swaps_tup {env : PySem.Env} {ts : List Expr} {k : Nat} {p : Pos} {l : Nat} (h : plainE e = true) : swapsWith e (some (.Tuple ts k p)) l env = pure false := by
  cases e <;> first | rfl | exact absurd h Bool.false_ne_true
theorem swaps_sub {env : PySem.Env} {o i : Expr} {p : Pos} {l : Nat} (h : plainE e = true) : swapsWith e (some (.Subscript o i p)) l env = pure false := by
  cases e <;> first | rfl | exact absurd h Bool.false_ne_true
/-- x = e -/
theorem s_set {x : Str} {px : Pos} {i : Nat} (w : SOk X sc N C ft W) (hx : locOf sc N x = some i) (hp : plainE e = true) (hs : isComp e = false) (he : PE X e (tE X.K X.mg W (evE C e'))) : PS X (.Assign [.Name x px] e pos) (tS X.K X.mg W (exS C (.set i e'))) := by
  obtain ⟨h1, h2, h3⟩ := w.put x i hx
  refine PS.imp (ps_set w.nd' h1 h2 he (swaps_plain hp hs) h3) fun Dn σ H ⟨m, en, S, er, sr, q⟩ => ?_
  unfold exS at q
  refine tG_use er sr (lift_post q er) fun d m1 S1 H1 v g er1 sr1 q1 rx => ?_
  exact flow_nx sr1 q1 (er1.set rx i)
theorem s_expr (hp : plainE e = true) (hs : isComp e = false) (he : PE X e (tE X.K X.mg W (evE C e'))) : PS X (.Expr e pos) (tS X.K X.mg W (exS C (.expr e'))) := by
  refine PS.imp (ps_expr he (swaps_plain hp hs)) fun Dn σ H ⟨m, en, S, er, sr, q⟩ => ?_
  unfold exS at q
  refine tG_use er sr (lift_post q er) fun d m1 S1 H1 v g er1 sr1 q1 rx => ?_
  exact flow_nx sr1 q1 er1
theorem s_ret (he : PE X e (tE X.K X.mg W (evE C e'))) : PS X (.Return (some e) pos) (tS X.K X.mg W (exS C (.ret e'))) := by
  refine PS.imp (ps_ret he) fun Dn σ H ⟨m, en, S, er, sr, q⟩ => ?_
  unfold exS at q
  refine tG_use er sr (lift_post q er) fun d m1 S1 H1 v g er1 sr1 q1 rx => ?_
  exact post_now sr1 (show post _ _ _ _ (R.ok (Flow.ret d) S1) _ from q1) v rx
theorem s_ret0 : PS X (.Return none pos) (tS X.K X.mg W (exS C .ret0)) := by
  refine PS.imp ps_retN fun Dn σ H ⟨m, en, S, er, sr, q⟩ => ?_
  unfold exS at q
  exact post_now sr (show post _ _ _ _ (R.ok (Flow.ret .non) S) _ from q) _ .non
theorem s_pass : PS X (.Pass pos) (tS X.K X.mg W (exS C .pass)) := by
  refine PS.imp ps_pass fun Dn σ H ⟨m, en, S, er, sr, q⟩ => ?_
  unfold exS at q
  exact flow_nx sr q er
theorem s_doc {x : Str} {j : Nat} {p : Pos} : PS X (.Expr (.Constant (.str x) j p) pos) (tS X.K X.mg W (exS C .pass)) := by
  refine PS.imp ps_doc fun Dn σ H ⟨m, en, S, er, sr, q⟩ => ?_
  unfold exS at q
  exact flow_nx sr q er
theorem s_brk : PS X (.Break pos) (tS X.K X.mg W (exS C .brk)) := by
  refine PS.imp ps_break fun Dn σ H ⟨m, en, S, er, sr, q⟩ => ?_
  unfold exS at q
  exact post_now sr (show post _ _ _ _ (R.ok (Flow.brk en) S) _ from q) σ er
theorem s_cnt : PS X (.Continue pos) (tS X.K X.mg W (exS C .cnt)) := by
  refine PS.imp ps_continue fun Dn σ H ⟨m, en, S, er, sr, q⟩ => ?_
  unfold exS at q
  exact post_now sr (show post _ _ _ _ (R.ok (Flow.cnt en) S) _ from q) σ er
theorem s_if {sa sb : List Stmt} {ba bb : Sts} (hc : PT X c (tT X.K X.mg W fun en => evE C c' en >>= truD)) (ha : PSs X sa (tS X.K X.mg W (exB C ba))) (hb : PSs X sb (tS X.K X.mg W (exB C bb))) : PS X (.If c sa sb pos) (tS X.K X.mg W (exS C (.ifs c' ba bb))) := by
  refine PS.imp (ps_if hc ha hb) fun Dn σ H ⟨m, en, S, er, sr, q⟩ => ?_
  unfold exS at q
  refine tG_use er sr (lift_post q er) fun t m1 S1 H1 v g er1 sr1 q1 rx => ?_
  subst rx
  cases v with
  | true => rw [if_pos rfl] at q1 ⊢; exact ⟨m1, en, S1, er1, sr1, q1⟩
  | false => rw [if_neg Bool.false_ne_true] at q1 ⊢; exact ⟨m1, en, S1, er1, sr1, q1⟩
/-- a block -/
theorem seq_post {K : PySem.W.Frag} {mg : Str → Option Value} {W : WX} {Dn : Ends} {m : List Addr} {H : Hp} {S : Store} {f : M Flow} {k : NL.Env → M Flow} (h : post K E0x m H ((f >>= fun fl => match fl with
    | .nx en' => k en'
    | f => pure f) S) (flowP mg W Dn)) : post K E0x m H (f S) (flowP mg W { Dn with nx := fun σ H => ∃ m en S, ER m H en σ ∧ SR K m S H ∧ post K E0x m H (k en S) (flowP mg W Dn) }) := by
  rw [bind_eq] at h
  cases e : f S with
  | ok fl S =>
    rw [e] at h
    intro m' H' g s
    cases fl with
    | nx en => exact fun σ er => ⟨m', en, S, er, s, post_later g (show post K E0x m H (k en S) _ from h)⟩
    | brk en => exact (show post K E0x m H (.ok (Flow.brk en) S) (flowP mg W Dn) from h) m' H' g s
    | cnt en => exact (show post K E0x m H (.ok (Flow.cnt en) S) (flowP mg W Dn) from h) m' H' g s
    | ret d => exact (show post K E0x m H (.ok (Flow.ret d) S) (flowP mg W Dn) from h) m' H' g s
    | exc c d en => exact (show post K E0x m H (.ok (Flow.exc c d en) S) (flowP mg W Dn) from h) m' H' g s
  | exc c d S => rw [e] at h; exact h
  | stuck => rw [e] at h; exact h
theorem s_nil : PSs X [] (tS X.K X.mg W (exB C .nil)) := by
  refine PSs.imp pss_nil fun Dn σ H ⟨m, en, S, er, sr, q⟩ => ?_
  unfold exB at q
  exact flow_nx sr q er
theorem s_cons {s : Stmt} {r : List Stmt} {s' : NL.St} {r' : Sts} (h1 : PS X s (tS X.K X.mg W (exS C s'))) (h2 : PSs X r (tS X.K X.mg W (exB C r'))) : PSs X (s :: r) (tS X.K X.mg W (exB C (.cons s' r'))) := by
  refine PSs.imp (pss_cons h1 h2) fun Dn σ H ⟨m, en, S, er, sr, q⟩ => ?_
  unfold exB at q
  exact ⟨m, en, S, er, sr, seq_post q⟩
/-- x += e, ints -/
theorem s_aug {x : Str} {px : Pos} {i : Nat} (w : SOk X sc N C ft W) (hx : locOf sc N x = some i) (he : PE X e (tE X.K X.mg W (evE C e'))) : PS X (.AugAssign (.Name x px) .Add e pos) (tS X.K X.mg W (exS C (.aug i e'))) := by
  obtain ⟨h1, h2, h3⟩ := w.put x i hx
  refine PS.imp (ps_aug w.nd' h1 h2 he ip_add h3) fun Dn σ H ⟨m, en, S, er, sr, q⟩ => ?_
  unfold exS at q
  cases e0 : en[i]? with
  | none => rw [e0] at q; exact q.elim
  | some od =>
    rw [e0] at q
    cases od with
    | none => exact q.elim
    | some d =>
      cases d <;> try exact q.elim
      rename_i n
      obtain ⟨v, hv, rv⟩ := er.get i _ e0
      cases rv
      refine ⟨_, hv, tG_use er sr (lift_post q er) fun d m1 S1 H1 v g er1 sr1 q1 rx => ?_⟩
      cases rx <;> try exact (show False from q1).elim
      exact ⟨n, _, rfl, rfl, flow_nx sr1 q1 (er1.set (.int _) i)⟩
/-- x.append(e) -/
theorem s_app {x : Str} {px apos cpos : Pos} {i : Nat} (w : SOk X sc N C ft W) (hx : visOf sc N x = some i) (hl : (apos.endLine == cpos.line) = true) (hp : plainE e = true) (he : PE X e (tE X.K X.mg W (evE C e'))) :
    PS X (.Expr (.Call (.Attribute (.Name x px) "append" apos) [e] [] cpos) pos) (tS X.K X.mg W (exS C (.app i e'))) := by
  obtain ⟨h1, h2, h3, h4⟩ := visOf_some hx
  have pv : PE X (.Name x px) (tVar i) := pe_var (by rw [w.hN]; exact h1) (by rw [w.sc]; exact h2) h3 h4
  refine PS.imp (ps_expr (pe_bm PySem.F.plainAttrs_list PySem.F.slot_list_append PySem.F.type_list_append mt_append pv (pa_cons he pa_nil (star_plain hp)) rfl (by rw [star_plain hp]; rfl) hl (star_plain hp) rfl)) fun Dn σ H ⟨m, en, S, er, sr, q⟩ => ?_
  unfold exS at q
  cases e0 : en[i]? with
  | none => rw [e0] at q; exact q.elim
  | some od =>
    rw [e0] at q
    cases od with
    | none => exact q.elim
    | some d =>
      cases d <;> try exact q.elim
      rename_i l
      obtain ⟨v, hv, rv⟩ := er.get i _ e0
      cases rv with
      | ref ea =>
        rename_i ad
        obtain ⟨xs, e1, q1⟩ := getM_bind (lift_post q er)
        obtain ⟨ws, h5, _⟩ := sr.lst_at e1 ea
        refine ⟨_, hv, .inl ⟨rfl, ws, SqL.of h5⟩, tG_use er sr q1 fun d m1 S1 H1 v g er1 sr1 q2 rx => ?_⟩
        have q3 := lift_post q2 er1
        unfold pushD at q3
        cases e2 : S1[l]? with
        | none => rw [e2] at q3; exact q3.elim
        | some o =>
          rw [e2] at q3
          cases o with
          | frz _ => exact q3.elim
          | lst ys =>
            dsimp only at q3
            split at q3
            · rename_i hlen
              obtain ⟨us, h6, rs⟩ := sr1.lst_at e2 (g.pre _ _ ea)
              refine ⟨ad, us, v, rfl, rfl, h6, by rw [← rs.length]; exact hlen, ?_⟩
              have gw : Gr m1 m1 H1 (upd H1 ad (.lst (us ++ [v]))) := Gr.write h6
              have sw := sr1.write e2 (g.pre _ _ ea) h6 (rs.append (.cons rx .nil))
              exact flow_nx sw (post_gr q3 gw sw) (er1.mono gw)
            · exact q3.elim
end
end NL

namespace NL
open PySem PySem.Spec PyProof.Rows L2
theorem anyS (vs : List Expr) (f : Expr → Bool) (h : ∀ e, f e = isStar e) : vs.any f = vs.any isStar := by rw [show f = isStar from funext h]
theorem fmS (ts : List Expr) (sc : Scope) (l : Nat) (f : Expr → Option Str) (h : ∀ e, f e = nmOf sc l e) : ts.filterMap f = ts.filterMap (nmOf sc l) := by rw [show f = nmOf sc l from funext h]
theorem swapped_eq {sc : Scope} {ts vs : List Expr} {r : Option (List Str)} {k k2 : Nat} {p p2 : Pos} {env : PySem.Env} (h : swP sc ts vs = some r) (hs : env.scope = sc) (hk : sc.kind = ScopeKind.function) :
    swappedStores [.Tuple ts k p] (.Tuple vs k2 p2) env = pure r := by
  have hb : env.blockKind = ScopeKind.function := by
    unfold Env.blockKind
    rw [hs, hk]
    rfl
  have hn : ∀ x, env.kindOf x = sc.names.lookup x := fun x => by unfold Env.kindOf; rw [hs]
  unfold swappedStores
  unfold swP at h
  simp only [hb, hn]
  rw [anyS vs _ (by intro e; cases e <;> rfl), fmS ts sc (lineOf ts) _ (by intro e; cases e <;> rfl)]
  split at h
  · rename_i c1
    cases h
    have : (!(ts.length == 2 || ts.length == 3) || vs.length != ts.length || (ScopeKind.function != ScopeKind.function)) = true := by rw [c1]; rfl
    rw [if_pos this]
  · rename_i c1
    have : ¬ (!(ts.length == 2 || ts.length == 3) || vs.length != ts.length || (ScopeKind.function != ScopeKind.function)) = true := by
      rw [Bool.or_eq_true]
      rintro (z | z)
      · exact c1 z
      · cases z
    rw [if_neg this]
    split at h
    · rename_i c2
      cases h
      rw [if_pos c2]
    · rename_i c2
      rw [if_neg c2]
      split at h
      · rename_i c3
        cases h
        rw [if_pos c3]
      · rename_i c3
        rw [if_neg c3]
        split at h
        · rename_i c4
          cases h
          rw [if_pos c4]
        · rename_i c4
          rw [if_neg c4]
          split at h
          · cases h
          · rename_i c5
            cases h
            rw [if_neg c5]
/-! ### stores -/
section
variable {X : Cx} {sc : Scope} {N : List Str} {C : Nat → List D → M D} {ft : FTab} {W : WX} {a b c e : Expr} {a' b' c' e' : E} {pos : Pos}
theorem unpD_ok {K : PySem.W.Frag} {Ex : Str → Option Nat → List Addr → Store → Hp → Prop} {m : List Addr} {H : Hp} {S : Store} {d : D} {n : Nat} {F : List D → List Addr → Store → Hp → Prop} (h : post K Ex m H (unpD n d S) F) : ∃ xs, unpD n d S = .ok xs S := by
  cases d <;> try exact (show False from h).elim
  · rename_i xs
    by_cases hc : xs.length = n
    · have e : unpD n (.tup xs) = pure xs := if_pos hc
      exact ⟨xs, by rw [e]; rfl⟩
    · have e : unpD n (.tup xs) = die := if_neg hc
      rw [e] at h
      exact (show False from h).elim
  · rename_i l
    have e : unpD n (.ref l) = getL l >>= fun xs => if xs.length = n then pure xs else die := rfl
    rw [e] at h ⊢
    obtain ⟨o, e0, h⟩ := getL_bind h
    have e2 : (getL l >>= fun xs => if xs.length = n then (pure xs : M (List D)) else die) S = (if (items o).length = n then (pure (items o) : M (List D)) else die) S := by
      rw [bind_eq]
      unfold getL
      rw [e0]
      rfl
    by_cases hc : (items o).length = n
    · rw [e2, if_pos hc]
      exact ⟨_, rfl⟩
    · rw [if_neg hc] at h
      exact (show False from h).elim
theorem bindT_tp {is : List Nat} {d : D} {en : NL.Env} {S : Store} {xs : List D} (h : unpD is.length d S = .ok xs S) : bindT (.tp is) d en S = .ok (NL.setAll en is xs) S := by
  show (unpD is.length d >>= fun ds => (pure (NL.setAll en is ds) : M NL.Env)) S = _
  rw [bind_eq, h]
  rfl
/-- a, b = e -/
theorem s_unpG {ts : List Expr} {is : List Nat} {k : Nat} {p : Pos} (w : SOk X sc N C ft W) (hn : namesOf (locOf sc N) ts = some is) (he : PE X e (tE X.K X.mg W (evE C e')))
    (hs : swapsWithSole [.Tuple ts k p] e pos.line X.env = pure false) (hw : swappedStores [.Tuple ts k p] e X.env = pure none) : PS X (.Assign [.Tuple ts k p] e pos) (tS X.K X.mg W (exS C (.unp is e'))) := by
  refine PS.imp (ps_asg he (g_of (t := .tp is) w.calm w.nd' w.put (by simp only [comTg]; rw [hn]; rfl)) hs hw rfl) fun Dn σ H ⟨m, en, S, er, sr, q⟩ => ?_
  unfold exS at q
  refine tG_use er sr (post_bind (lift_post q er)) fun d m1 S1 H1 v g er1 sr1 q1 rx => ?_
  obtain ⟨xs, hx⟩ := unpD_ok q1
  have hx' : unpD (List.length is) d S1 = .ok xs S1 := hx
  rw [show unpD is.length d S1 = .ok xs S1 from hx] at q1
  have q2 := post_now sr1 q1
  refine ⟨E0x, m1, en, S1, d, er1, sr1, rx, ?_⟩
  rw [bindT_tp hx']
  exact fun m' H' g' s' σ' er' _ => (post_gr (show post _ _ _ _ (R.ok (Flow.nx (NL.setAll en is xs)) S1) _ from q2) g' s') σ' er'
/-- o[i] = e -/
theorem s_setIx {o i : Expr} {o' i' : E} {p : Pos} (w : SOk X sc N C ft W) (hsl : isSlice i = false) (hp : plainE e = true) (ho : PE X o (tE X.K X.mg W (evE C o'))) (hi : PE X i (tE X.K X.mg W (evE C i'))) (he : PE X e (tE X.K X.mg W (evE C e'))) :
    PS X (.Assign [.Subscript o i p] e pos) (tS X.K X.mg W (exS C (.setIx o' i' e'))) := by
  have ha : ∀ v, assign (.Subscript o i p) X.env v = (do
      let ov ← holding [v] (eval o X.env)
      let iv ← holding [v, ov] (eval i X.env)
      standAt p
      holding [v, ov, iv] (setItem ov iv v)
      release [v, ov, iv] []) := by
    intro v
    cases i <;> first | rfl | exact absurd hsl (by intro z; cases z)
  refine PS.imp (ps_asg he (pg_sub ho hi set_list ha) (show swapsWith e (some (.Subscript o i p)) pos.line X.env = pure false from swaps_sub hp) rfl rfl) fun Dn σ H ⟨m, en, S, er, sr, q⟩ => ?_
  unfold exS at q
  refine tG_use er sr (post_bind (lift_post q er)) fun d m1 S1 H1 v g er1 sr1 q1 rx => ?_
  refine tG_use er1 sr1 (post_bind q1) fun x m2 S2 H2 u g2 er2 sr2 q2 ru => ?_
  refine tG_use er2 sr2 (post_bind q2) fun y m3 S3 H3 t g3 er3 sr3 q3 rt => ?_
  have q3 : post X.K (Wd X.mg W σ) m3 H3 (setIxD x y d S3) _ := q3
  have ru := Rep.mono g3 _ _ ru
  have rx := Rep.mono (g2.trans g3) _ _ rx
  cases ru <;> try exact (show False from q3).elim
  rename_i l ad ea _
  cases rt <;> try exact (show False from q3).elim
  rename_i n _
  obtain ⟨xs, e1, q4⟩ := getM_bind (show post _ _ _ _ ((getM _ >>= fun xs => match ixN xs.length n with
    | some j => fun S => .ok () (S.set _ (.lst (xs.set j d)))
    | none => die) S3) _ from q3)
  obtain ⟨vs, h5, rs⟩ := sr3.lst_at e1 ea
  cases e2 : ixN xs.length n with
  | none => rw [e2] at q4; exact q4.elim
  | some j =>
    rw [e2] at q4
    refine ⟨ad, vs, n, j, rfl, rfl, h5, by rw [← rs.length]; exact e2, ?_⟩
    have gw : Gr m3 m3 H3 (upd H3 ad (.lst (vs.set j v))) := Gr.write h5
    have sw := sr3.write e1 ea h5 (rs.set rx j)
    have q5 := post_gr (show post _ _ _ _ (R.ok () (S3.set l (.lst (xs.set j d)))) _ from q4) gw sw
    exact flow_nx sw q5 (er3.mono gw)
/-! ### loops -/
theorem loop_post {K : PySem.W.Frag} {mg : Str → Option Value} {W : WX} {Dn : Ends} {m : List Addr} {H : Hp} {S : Store} {f : M Flow} {k : NL.Env → M Flow} {Nn : L2.St → Hp → Prop} (h : post K E0x m H ((f >>= fun fl => match fl with
    | .nx en' => k en'
    | .cnt en' => k en'
    | .brk en' => pure (.nx en')
    | f => pure f) S) (flowP mg W Dn)) (hN : ∀ m' H' en S' σ, Gr m m' H H' → ER m' H' en σ → SR K m' S' H' → post K E0x m' H' (k en S') (flowP mg W Dn) → Nn σ H') :
    post K E0x m H (f S) (flowP mg W { Dn with nx := Nn, ct := Nn, bk := Dn.nx }) := by
  rw [bind_eq] at h
  cases e : f S with
  | ok fl S =>
    rw [e] at h
    intro m' H' g s
    cases fl with
    | nx en => exact fun σ er => hN m' H' en S σ g er s (post_later g (show post K E0x m H (k en S) _ from h))
    | cnt en => exact fun σ er => hN m' H' en S σ g er s (post_later g (show post K E0x m H (k en S) _ from h))
    | brk en => exact (show post K E0x m H (.ok (Flow.nx en) S) (flowP mg W Dn) from h) m' H' g s
    | ret d => exact (show post K E0x m H (.ok (Flow.ret d) S) (flowP mg W Dn) from h) m' H' g s
    | exc c d en => exact (show post K E0x m H (.ok (Flow.exc c d en) S) (flowP mg W Dn) from h) m' H' g s
  | exc c d S => rw [e] at h; exact h
  | stuck => rw [e] at h; exact h
theorem s_whl {sb : List Stmt} {b' : Sts} (w : SOk X sc N C ft W) (hc : PT X c (tT X.K X.mg W fun en => evE C c' en >>= truD)) (hb : PSs X sb (tS X.K X.mg W (exB C b'))) : PS X (.While c sb [] pos) (tS X.K X.mg W (exS C (.whl c' b'))) := by
  refine PS.imp (ps_while w.pass hc hb) fun Dn σ H ⟨m, en, S, er, sr, q⟩ => ?_
  unfold exS at q
  refine ⟨fun n σ H => ∃ m en S, ER m H en σ ∧ SR X.K m S H ∧ post X.K E0x m H (whlL (fun en' => evE C c' en' >>= truD) (fun en' => exB C b' en') n en S) (flowP X.mg W Dn), ⟨_, m, en, S, er, sr, q⟩, ?_⟩
  rintro n σ H ⟨m, en, S, er, sr, q⟩
  cases n with
  | zero => exact (show False from q).elim
  | succ n =>
    unfold whlL at q
    refine tG_use er sr (lift_post q er) fun t m1 S1 H1 v g er1 sr1 q1 rx => ?_
    subst rx
    cases v with
    | true =>
      rw [if_pos rfl] at q1 ⊢
      refine ⟨fun σ H => ∃ m en S, ER m H en σ ∧ SR X.K m S H ∧ post X.K E0x m H (whlL (fun en' => evE C c' en' >>= truD) (fun en' => exB C b' en') n en S) (flowP X.mg W Dn), fun σ' H' h => ⟨n, Nat.lt_succ_self n, h⟩, m1, en, S1, er1, sr1, ?_⟩
      exact loop_post q1 fun m' H' en S' σ g er s p => ⟨m', en, S', er, s, p⟩
    | false =>
      rw [if_neg Bool.false_ne_true] at q1 ⊢
      exact flow_nx sr1 q1 er1
theorem ckD_post {α : Type} {K : PySem.W.Frag} {Ex : Str → Option Nat → List Addr → Store → Hp → Prop} {m : List Addr} {H : Hp} {p : Option (Nat × Ob)} {f : Unit → M α} {S : Store} {F : α → List Addr → Store → Hp → Prop} (h : post K Ex m H ((ckD p >>= f) S) F) : CkOk p S ∧ post K Ex m H (f () S) F := by
  rw [bind_eq] at h
  cases p with
  | none => exact ⟨trivial, h⟩
  | some q =>
    obtain ⟨l, o⟩ := q
    simp only [ckD] at h
    by_cases e : S[l]? = some o
    · rw [if_pos e] at h; exact ⟨e, h⟩
    · rw [if_neg e] at h; exact h.elim
theorem s_for {tg it : Expr} {t : Tg} {i' : NL.It} {sb : List Stmt} {b' : Sts} (w : SOk X sc N C ft W) (hp : plainE it = true) (ht : comTg (locOf sc N) tg = some t) (hi : PI X tg it (tI X.K X.mg W (evIt C i'))) (hb : PSs X sb (tS X.K X.mg W (exB C b'))) :
    PS X (.For tg it sb [] pos) (tS X.K X.mg W (exS C (.for_ t i' b'))) := by
  refine PS.imp (ps_for w.pass w.calm hi (g_of w.calm w.nd' w.put ht) hb (fun x => folded_plain hp)) fun Dn σ H ⟨m, en, S, er, sr, q⟩ => ?_
  unfold exS at q
  refine ⟨m, en, S, er, sr, post_mono (lift_post q er) fun p m1 S1 H1 g1 sr1 q1 J gv => ?_⟩
  have er1 := er.mono g1
  refine ⟨fun i k σ H => ∃ mm en S, Gr m1 mm H1 H ∧ ER mm H en σ ∧ SR X.K mm S H ∧ i ≤ p.1.length ∧ k = p.1.length - i ∧ post X.K E0x mm H (forL (ckD p.2) (fun d en' => bindT t d en') (fun en' => exB C b' en') (p.1.drop i) en S) (flowP X.mg W Dn),
    ⟨_, m1, en, S1, Gr.refl _ _, er1, sr1, Nat.zero_le _, rfl, q1⟩, ?_⟩
  rintro i k σ2 H2 ⟨mm, en2, S2, gm, er2, sr2, hil, rfl, q2⟩
  by_cases hlt : i < p.1.length
  · right
    have hx : p.1[i]? = some p.1[i] := List.getElem?_eq_getElem hlt
    rw [List.drop_eq_getElem_cons hlt] at q2
    unfold forL at q2
    obtain ⟨ck, q3⟩ := ckD_post (lift_post q2 er2)
    have gi := (gv i mm S2 H2 gm sr2 ck).2 _ hx
    refine ⟨gi.1, fun σ H => ∃ mm en S, Gr m1 mm H1 H ∧ ER mm H en σ ∧ SR X.K mm S H ∧ post X.K E0x mm H (forL (ckD p.2) (fun d en' => bindT t d en') (fun en' => exB C b' en') (p.1.drop (i + 1)) en S) (flowP X.mg W Dn),
      fun σ' H' ⟨mm, en, S, h1, h2, h3, h4⟩ => ⟨p.1.length - (i + 1), by omega, mm, en, S, h1, h2, h3, hlt, rfl, h4⟩, fun x H' hy => ?_⟩
    obtain ⟨ga, sa, ra⟩ := gi.2 x H' hy
    refine ⟨_, mm, en2, S2, _, er2.mono ga, sa, ra, post_mono (post_later ga q3) fun en' m3 S3 H3 g3 s3 q4 σ' er' _ => ?_⟩
    refine ⟨m3, en', S3, er', s3, loop_post q4 fun m' H' en S' σ g er s pp => ⟨m', en, S', gm.trans (ga.trans (g3.trans g)), er, s, pp⟩⟩
  · left
    have e : i = p.1.length := by omega
    subst e
    rw [List.drop_length] at q2
    unfold forL at q2
    have q3 := lift_post q2 er2
    obtain ⟨ck, _⟩ := ckD_post (f := fun _ => (pure () : M Unit)) (F := fun _ _ _ _ => True) (K := X.K) (Ex := fun _ _ _ _ _ => True) (m := mm) (H := H2) (p := p.2) (S := S2) (by
      cases hp : p.2 with
      | none => exact fun _ _ _ _ => trivial
      | some lo =>
        obtain ⟨l, o⟩ := lo
        rw [hp] at q3
        simp only [ckD] at q3
        rw [bind_eq]
        simp only [ckD]
        split at q3
        · rename_i e; rw [if_pos e]; exact fun _ _ _ _ => trivial
        · exact q3.elim)
    have q4 : post X.K E0x mm H2 ((pure (Flow.nx en2) : M Flow) S2) (flowP X.mg W Dn) := by
      cases hp : p.2 with
      | none => rw [hp] at q3; exact post_now sr2 q3
      | some lo =>
        obtain ⟨l, o⟩ := lo
        rw [hp] at q3
        simp only [ckD] at q3
        split at q3
        · exact post_now sr2 q3
        · exact q3.elim
    exact ⟨(gv _ mm S2 H2 gm sr2 ck).1 rfl, flow_nx sr2 q4 er2⟩
end
end NL

/-! Statements: what is read answers as the machine does. -/
namespace NL
open PySem PySem.Spec PyProof.Rows L2
section
variable {N : List Str} {C : Nat → List D → M D} {ft : FTab} {X : Cx} {sc : Scope} {W : WX}
theorem s_dead {s : Stmt} : PS X s (tS X.K X.mg W (exS C .dead)) := ⟨fun pins s σ H Dn I ⟨m, en, S, er, sr, q⟩ => by
  unfold exS at q
  exact q.elim⟩
theorem names_len {f : Str → Option Nat} : ∀ {es : List Expr} {is : List Nat}, namesOf f es = some is → es.length = is.length
  | [], _, h => by cases h; rfl
  | e :: es, is, h => by
    cases e <;> simp only [namesOf] at h <;> try cases h
    rename_i x p
    cases e1 : f x with
    | none => rw [e1] at h; cases h
    | some i =>
      cases e2 : namesOf f es with
      | none => rw [e1, e2] at h; cases h
      | some is' =>
        rw [e1, e2] at h
        cases h
        show _ + 1 = _ + 1
        rw [names_len e2]
theorem fm_len {α β : Type} (f : α → Option β) : ∀ ts : List α, (ts.filterMap f).length = ts.length → ∀ t ∈ ts, ∃ y, f t = some y
  | [], _, _, h => by cases h
  | t :: ts, hl, u, hu => by
    rw [List.filterMap_cons] at hl
    cases e : f t with
    | none =>
      rw [e] at hl
      have := List.length_filterMap_le f ts
      simp only [List.length_cons] at hl
      omega
    | some y =>
      rw [e] at hl
      rcases List.mem_cons.mp hu with rfl | hu
      · exact ⟨y, e⟩
      · exact fm_len f ts (by simpa using hl) u hu
theorem nmOf_some {l : Nat} {e : Expr} {x : Str} (h : nmOf sc l e = some x) : ∃ p, e = .Name x p ∧ sc.names.lookup x = some .local := by
  cases e <;> simp only [nmOf] at h <;> try cases h
  rename_i y p
  split at h
  · rename_i c
    cases h
    have key : ∀ o : Option NameKind, (o == some .local) = true → o = some .local := fun o h => by
      cases o with
      | none => cases h
      | some k => cases k <;> first | rfl | cases h
    exact ⟨p, rfl, key _ (Bool.and_eq_true_iff.mp c).1⟩
  · cases h
/-- what the right-to-left stores read -/
theorem swP_some {ts vs : List Expr} {nm : List Str} (h : swP sc ts vs = some (some nm)) : (ts.length = 2 ∨ ts.length = 3) ∧ vs.length = ts.length ∧ nm = ts.filterMap (nmOf sc (lineOf ts)) ∧ nm.length = ts.length := by
  unfold swP at h
  split at h
  · cases h
  · rename_i c1
    split at h
    · cases h
    · split at h
      · cases h
      · rename_i c3
        split at h
        · cases h
        · split at h
          · cases h
          · cases h
            simp only [Bool.or_eq_true, not_or, Bool.not_eq_true', bne_iff_ne, ne_eq, Decidable.not_not, beq_iff_eq, Bool.or_eq_false_iff, beq_eq_false_iff_ne, not_and] at c1 c3
            refine ⟨?_, c1.2, rfl, c3.1⟩
            have := c1.1
            omega
theorem s_unpV {s : Stmt} {is : List Nat} {es : Es} (h : PS X s (fun Dn σ H => tA X.K X.mg W (evEs C es) σ H fun vs H1 => vs.length = is.length ∧ Dn.nx (NL.setV σ is vs) H1)) : PS X s (tS X.K X.mg W (exS C (.unp is (.tup es)))) := by
  refine PS.imp h fun Dn σ H ⟨m, en, S, er, sr, q⟩ => ?_
  unfold exS evE at q
  have q0 := lift_post q er
  rw [bind_as] at q0
  refine tG_use er sr (post_bind q0) fun xs m1 S1 H1 vs g er1 sr1 q1 rx => ?_
  by_cases hz : xs.length ≤ sizeLine
  · rw [if_pos hz] at q1
    have q1 : post X.K (Wd X.mg W σ) m1 H1 (unpD is.length (.tup xs) S1) _ := q1
    by_cases hc : xs.length = is.length
    · have e : unpD is.length (.tup xs) = pure xs := if_pos hc
      rw [e] at q1
      exact ⟨by rw [← rx.length]; exact hc, flow_nx sr1 (post_now sr1 q1) (ER.setAll er1 rx)⟩
    · have e : unpD is.length (.tup xs) = die := if_neg hc
      rw [e] at q1
      exact q1.elim
  · rw [if_neg hz] at q1
    exact q1.elim
theorem two_of {α : Type} {xs : List α} (h : xs.length = 2) : ∃ a b, xs = [a, b] := by
  rcases xs with _ | ⟨a, _ | ⟨b, _ | ⟨c, xs⟩⟩⟩
  · cases h
  · cases h
  · exact ⟨a, b, rfl⟩
  · simp at h
theorem three_of {α : Type} {xs : List α} (h : xs.length = 3) : ∃ a b c, xs = [a, b, c] := by
  rcases xs with _ | ⟨a, _ | ⟨b, _ | ⟨c, _ | ⟨d, xs⟩⟩⟩⟩
  · cases h
  · cases h
  · cases h
  · exact ⟨a, b, c, rfl⟩
  · simp at h
theorem s_par {ts vs : List Expr} {nm : List Str} {is : List Nat} {es : Es} {k k2 : Nat} {p p2 pos : Pos} (w : SOk X sc N C ft W) (h : swP sc ts vs = some (some nm)) (hn : namesOf (locOf sc N) ts = some is) (nd : is.Nodup) (ha : PA X vs (tA X.K X.mg W (evEs C es))) :
    PS X (.Assign [.Tuple ts k p] (.Tuple vs k2 p2) pos) (tS X.K X.mg W (exS C (.unp is (.tup es)))) := by
  have hw := swapped_eq (k := k) (k2 := k2) (p := p) (p2 := p2) h w.sc w.kind
  obtain ⟨h1, h2, h3, h4⟩ := swP_some h
  have hlen := names_len hn
  have all := fm_len _ ts (by rw [← h3]; exact h4)
  have nmx : ∀ x i, locOf sc N x = some i → X.N[i]? = some x := fun x i hx => (w.put x i hx).1
  rcases h1 with h1 | h1
  · obtain ⟨t1, t2, rfl⟩ := two_of h1
    obtain ⟨a, b, rfl⟩ := two_of (h2.trans h1)
    obtain ⟨i, j, rfl⟩ := two_of (hlen.symm.trans h1)
    obtain ⟨x, ex⟩ := all t1 (by simp)
    obtain ⟨y, ey⟩ := all t2 (by simp)
    rw [List.filterMap_cons, ex, List.filterMap_cons, ey] at h3
    subst h3
    obtain ⟨px, rfl, lx⟩ := nmOf_some ex
    obtain ⟨py, rfl, ly⟩ := nmOf_some ey
    simp only [namesOf] at hn
    cases e1 : locOf sc N x with
    | none => rw [e1] at hn; cases hn
    | some i' =>
      cases e2 : locOf sc N y with
      | none => rw [e1, e2] at hn; cases hn
      | some j' =>
        rw [e1, e2] at hn
        cases hn
        have hij : i ≠ j := by simpa using nd
        refine s_unpV (PS.imp (ps_par w.calm w.nd' (nmx x i e1) (nmx y j e2) hij (by rw [w.sc]; exact lx) (by rw [w.sc]; exact ly) ha hw rfl) fun Dn σ H ⟨m, en, S, er, sr, q⟩ => ?_)
        refine ⟨m, en, S, er, sr, post_mono q fun xs m1 S1 H1 g s q1 vs rv => ?_⟩
        obtain ⟨hl, q2⟩ := q1 vs rv
        obtain ⟨u, v, rfl⟩ := two_of hl
        exact ⟨u, v, rfl, q2⟩
  · obtain ⟨t1, t2, t3, rfl⟩ := three_of h1
    obtain ⟨a, b, c, rfl⟩ := three_of (h2.trans h1)
    obtain ⟨i, j, l, rfl⟩ := three_of (hlen.symm.trans h1)
    obtain ⟨x, ex⟩ := all t1 (by simp)
    obtain ⟨y, ey⟩ := all t2 (by simp)
    obtain ⟨z, ez⟩ := all t3 (by simp)
    rw [List.filterMap_cons, ex, List.filterMap_cons, ey, List.filterMap_cons, ez] at h3
    subst h3
    obtain ⟨px, rfl, lx⟩ := nmOf_some ex
    obtain ⟨py, rfl, ly⟩ := nmOf_some ey
    obtain ⟨pz, rfl, lz⟩ := nmOf_some ez
    simp only [namesOf] at hn
    cases e1 : locOf sc N x with
    | none => rw [e1] at hn; cases hn
    | some i' =>
      cases e2 : locOf sc N y with
      | none => rw [e1, e2] at hn; cases hn
      | some j' =>
        cases e3 : locOf sc N z with
        | none => rw [e1, e2, e3] at hn; cases hn
        | some l' =>
          rw [e1, e2, e3] at hn
          cases hn
          have hne : i ≠ j ∧ i ≠ l ∧ j ≠ l := by
            simp only [List.nodup_cons, List.mem_cons, List.not_mem_nil, or_false, not_or] at nd
            exact ⟨nd.1.1, nd.1.2, nd.2.1⟩
          refine s_unpV (PS.imp (ps_par3 w.calm w.nd' (nmx x i e1) (nmx y j e2) (nmx z l e3) hne.1 hne.2.1 hne.2.2 (by rw [w.sc]; exact lx) (by rw [w.sc]; exact ly) (by rw [w.sc]; exact lz) ha hw rfl) fun Dn σ H ⟨m, en, S, er, sr, q⟩ => ?_)
          refine ⟨m, en, S, er, sr, post_mono q fun xs m1 S1 H1 g s q1 vs rv => ?_⟩
          obtain ⟨hl, q2⟩ := q1 vs rv
          obtain ⟨u, v, t, rfl⟩ := three_of hl
          exact ⟨u, v, t, rfl, q2⟩
theorem swapped_none {ts : List Expr} {e : Expr} {k : Nat} {p : Pos} {env : PySem.Env} (h : ∀ vs k2 p2, e ≠ .Tuple vs k2 p2) : swappedStores [.Tuple ts k p] e env = pure none := by
  cases e <;> first | rfl | exact absurd rfl (h _ _ _)
theorem sole_tup {ts : List Expr} {e : Expr} {k l : Nat} {p : Pos} {env : PySem.Env} (hp : plainE e = true) : swapsWithSole [.Tuple ts k p] e l env = pure false :=
  (show swapsWith e (some (.Tuple ts k p)) l env = pure false from swaps_tup hp)
theorem s_setA {x : Str} {px pos : Pos} {i n : Nat} {e : Expr} {e' : E} (w : SOk X sc N C ft W) (hx : locOf sc N x = some i) (hp : plainE e = true) (h : comE ft N n sc e = some e') : PS X (.Assign [.Name x px] e pos) (tS X.K X.mg W (exS C (.set i e'))) := by
  have he := (comE_ok n X sc W e e' w.toXOk h).1
  by_cases hc : isComp e = true
  · cases e <;> try cases hc
    rename_i elt gens scope p
    cases n with
    | zero => unfold comE at h; cases h
    | succ n =>
    obtain ⟨tg, it, ifs, rfl, own, wi, g, tt, te, hi, hb, hg, ht, hel, hs, k⟩ := comE_comp w.toXOk h
    obtain ⟨h1, h2, h3⟩ := w.put x i hx
    have fin : ∀ {t : TE}, PS X (.Assign [.Name x px] (.ListComp elt [⟨tg, it, ifs, 0⟩] scope p) pos) (tAsg t (gName i)) → (∀ σ H Q, tE X.K X.mg W (evE C e') σ H Q → t σ H Q) → PS X (.Assign [.Name x px] (.ListComp elt [⟨tg, it, ifs, 0⟩] scope p) pos) (tS X.K X.mg W (exS C (.set i e'))) := fun {t} h hk => by
      refine PS.imp h fun Dn σ H ⟨m, en, S, er, sr, q⟩ => ?_
      unfold exS at q
      refine hk σ H _ (tG_use er sr (lift_post q er) fun d m1 S1 H1 v g er1 sr1 q1 rx => ?_)
      exact flow_nx sr1 q1 (er1.set rx i)
    obtain ⟨b, hb2⟩ : ∃ b, swapsWith (.ListComp elt [⟨tg, it, ifs, 0⟩] scope p) (some (.Name x px)) pos.line X.env = pure b := ⟨_, rfl⟩
    cases b with
    | false => exact fin (ps_set w.nd' h1 h2 he hb2 h3) fun _ _ _ q => q
    | true =>
      by_cases hl : X.env.scope.names.lookup x = some .local
      · exact fin (ps_setLc w.calm w.nd' h1 hl hb2 hi hb hg ht hel hs) k
      · have : swapsWith (.ListComp elt [⟨tg, it, ifs, 0⟩] scope p) (some (.Name x px)) pos.line X.env = pure false := by
          have key : ∀ o : Option NameKind, ¬ o = some .local → (o == some .local) = false := fun o h => by
            cases o with
            | none => rfl
            | some k => cases k <;> first | rfl | exact absurd rfl h
          unfold swapsWith
          have e : (X.env.kindOf x == some .local) = false := key _ hl
          simp only [e]
          rw [Bool.and_false, Bool.false_and, Bool.false_and]
        exact fin (ps_set w.nd' h1 h2 he this h3) fun _ _ _ q => q
  · exact s_set w hx hp (by simpa using hc) he
theorem comSs_ok {f : Stmt → Option NL.St} : ∀ {ss : List Stmt} {r : Sts}, comS.comSs f ss = some r → (∀ s r, f s = some r → PS X s (tS X.K X.mg W (exS C r))) → PSs X ss (tS X.K X.mg W (exB C r))
  | [], _, h, _ => by cases h; exact s_nil
  | s :: ss, r, h, hf => by
    simp only [comS.comSs] at h
    cases e1 : f s with
    | none => rw [e1] at h; cases h
    | some a =>
      cases e2 : comS.comSs f ss with
      | none => rw [e1, e2] at h; cases h
      | some b =>
        rw [e1, e2] at h
        cases h
        exact s_cons (hf s a e1) (comSs_ok e2 hf)
theorem comS_ok (w : SOk X sc N C ft W) : ∀ (n : Nat) (s : Stmt) (s' : NL.St), comS ft N sc n s = some s' → PS X s (tS X.K X.mg W (exS C s')) := by
  intro n
  induction n with
  | zero => intro s s' h; unfold comS at h; cases h
  | succ n ih =>
    intro s s' h
    have ex : ∀ {e : Expr} {e' : E}, comE ft N n sc e = some e' → PE X e (tE X.K X.mg W (evE C e')) ∧ PT X e (tT X.K X.mg W fun en => evE C e' en >>= truD) ∧ plainE e = true := fun {e e'} h => ⟨(comE_ok n X sc W e e' w.toXOk h).1, (comE_ok n X sc W e e' w.toXOk h).2, comE_plain h⟩
    have many : ∀ {es : List Expr} {r : Es}, comL (comE ft N n sc) es = some r → PA X es (tA X.K X.mg W (evEs C r)) := fun {es r} hc => p_list hc fun x _ r hr => ⟨comE_plain hr, (ex hr).1⟩
    cases s with
    | Return v pos =>
      cases v with
      | none => simp only [comS] at h; cases h; exact s_ret0
      | some e =>
        simp only [comS] at h
        obtain ⟨e', he, rfl⟩ := Option.map_eq_some_iff.mp h
        exact s_ret (ex he).1
    | If c a b pos =>
      simp only [comS] at h
      split at h
      · rename_i c' a' b' e1 e2 e3
        cases h
        exact s_if (ex e1).2.1 (comSs_ok e2 ih) (comSs_ok e3 ih)
      · cases h
    | For tg it b orelse pos =>
      cases orelse with
      | cons _ _ => simp only [comS] at h; cases h
      | nil =>
        simp only [comS] at h
        split at h
        · rename_i t i b' e1 e2 e3
          cases h
          obtain ⟨hi, hp⟩ := i_of (tg := tg) w.toXOk e2 fun x r hr => ⟨(ex hr).2.2, (ex hr).1⟩
          exact s_for w hp e1 hi (comSs_ok e3 ih)
        · cases h
    | While c b orelse pos =>
      cases orelse with
      | cons _ _ => simp only [comS] at h; cases h
      | nil =>
        simp only [comS] at h
        split at h
        · rename_i c' b' e1 e2
          cases h
          exact s_whl w (ex e1).2.1 (comSs_ok e2 ih)
        · cases h
    | Break pos => simp only [comS] at h; cases h; exact s_brk
    | Continue pos => simp only [comS] at h; cases h; exact s_cnt
    | Pass pos => simp only [comS] at h; cases h; exact s_pass
    | Raise a b pos => simp only [comS] at h; cases h; exact s_dead
    | AugAssign tg op e pos =>
      cases tg <;> cases op <;> simp only [comS] at h <;> try cases h
      split at h
      · rename_i i e' e1 e2
        cases h
        exact s_aug w e1 (ex e2).1
      · cases h
    | Expr e pos =>
      have dflt : (if isComp e = true then none else (comE ft N n sc e).map NL.St.expr) = some s' → PS X (.Expr e pos) (tS X.K X.mg W (exS C s')) := fun h => by
        split at h
        · cases h
        · rename_i hc
          obtain ⟨e', he, rfl⟩ := Option.map_eq_some_iff.mp h
          exact s_expr (ex he).2.2 (by simpa using hc) (ex he).1
      unfold comS at h
      split at h
      all_goals try (cases h; done)
      all_goals try (exfalso; cases ‹Stmt.Expr e pos = _›; done)
      all_goals
        have hs := ‹Stmt.Expr e pos = _›
        injection hs with h1 h2
        subst h1
        subst h2
      · split at h
        · rename_i hm
          simp only [Bool.and_eq_true, decide_eq_true_eq] at hm
          split at h
          · rename_i i e' e1 e2
            cases h
            obtain ⟨hm1, hm2⟩ := hm
            subst hm1
            exact s_app w e1 hm2 (ex e2).2.2 (ex e2).1
          · cases h
        · cases h
      · cases h; exact s_doc
      · exact dflt h
    | Assign ts e pos =>
      unfold comS at h
      split at h
      all_goals try (cases h; done)
      all_goals try (exfalso; cases ‹Stmt.Assign ts e pos = _›; done)
      all_goals
        have hs := ‹Stmt.Assign ts e pos = _›
        injection hs with h1 h2 h3
        subst h1
        subst h2
        subst h3
      · split at h
        · rename_i i e' e1 e2
          cases h
          have hpl := (ex e2).2.2
          exact s_setA w e1 hpl e2
        · cases h
      · split at h
        · rename_i is es e1 e2 e3
          cases h
          have hE : ∀ k p, comE ft N (n + 1) sc (.Tuple _ k p) = some (.tup es) := fun k p => by simp only [comE]; rw [e3]; rfl
          exact s_unpG w e2 (comE_ok (n + 1) X sc W _ _ w.toXOk (hE _ _)).1 (sole_tup rfl) (swapped_eq e1 w.sc w.kind)
        · rename_i nm is es e1 e2 e3
          split at h
          · rename_i hc
            cases h
            exact s_par w e1 e2 hc.1 (many e3)
          · cases h
        · cases h
      · split at h
        · rename_i is e' e1 e2
          cases h
          have hpl := (ex e2).2.2
          refine s_unpG w e1 (ex e2).1 (sole_tup hpl) (swapped_none fun vs k2 p2 z => ?_)
          subst z
          rename_i hx _
          exact hx _ _ _ rfl
        · cases h
      · split at h
        · cases h
        · rename_i hc
          split at h
          · rename_i o' i' e' e1 e2 e3
            cases h
            exact s_setIx w (by simpa using hc) (ex e3).2.2 (ex e1).1 (ex e2).1 (ex e3).1
          · cases h
    | _ => simp only [comS] at h; cases h
end
end NL

/-! Defs, calls, the end of a law. -/
namespace NL
open PySem PySem.Spec PyProof.Rows L2
/-- a def of the program: its name, its text, its names (the parameters first), how it is read -/
structure Ent where
  name : Str
  st : Stmt
  N : List Str
  ps : List Str
  fn : Fn
def idxOf (x : Str) : List Ent → Option (Nat × Nat)
  | [] => none
  | e :: r => if e.name = x then some (0, e.ps.length) else (idxOf x r).map fun p => (p.1 + 1, p.2)
abbrev ftOf (tab : List Ent) : FTab := fun x => idxOf x tab
abbrev tabT (tab : List Ent) : Nat → Option Fn := fun i => (tab[i]?).map (·.fn)
theorem idxOf_some {x : Str} : ∀ {tab : List Ent} {i ar : Nat}, idxOf x tab = some (i, ar) → ∃ e, tab[i]? = some e ∧ e.name = x ∧ e.ps.length = ar
  | [], _, _, h => by cases h
  | e :: r, i, ar, h => by
    unfold idxOf at h
    split at h
    · rename_i hx
      cases h
      exact ⟨e, rfl, hx, rfl⟩
    · obtain ⟨⟨j, a⟩, hj, he⟩ := Option.map_eq_some_iff.mp h
      cases he
      obtain ⟨e', h1, h2, h3⟩ := idxOf_some hj
      exact ⟨e', by simpa using h1, h2, h3⟩
/-- the text reads so -/
structure EOk (ft : FTab) (e : Ent) : Prop where
  com : comF ft e.N e.st = some e.fn
  sc : FnScope e.N e.ps (defScope e.st)
  np : e.fn.np = e.ps.length
  nv : e.fn.nv = e.N.length
/-- it stands there -/
structure DAt (K : PySem.W.Frag) (mg : Str → Option Value) (e : Ent) (f : Addr) (fd : FuncData) : Prop where
  fn : Fun K e.name e.name e.st f fd
  mgf : mg e.name = some (.ref f)
  bind : ∀ us : List Value, us.length = e.ps.length → bindArgs fd ⟨us, []⟩ = pure (e.ps.zip us)
def DIn (K : PySem.W.Frag) (mg : Str → Option Value) (e : Ent) : Prop := ∃ f fd, DAt K mg e f fd
structure Blts (mg : Str → Option Value) : Prop where
  blt : ∀ b : Blt, mg b.name = none
  isi : mg "isinstance" = none
  rng : mg "range" = none
  ty : ∀ t : Ty, mg t.name = none
section
variable {P : Program} {w : World} {K : PySem.W.Frag} {mg : Str → Option Value} {base : Heap}
theorem ER.start {m : List Addr} {H : Hp} {ds : List D} {vs : List V} {N : List Str} {k : Nat} (r : Reps m H ds vs) (hl : ds.length = k) : ER m H (ds.map some ++ List.replicate (N.length - k) none) (L2.start N vs) := by
  subst hl
  refine ⟨by unfold L2.start; simp [r.length], fun i d h => ?_⟩
  unfold L2.start
  by_cases hi : i < ds.length
  · rw [List.getElem?_append_left (by simpa using hi), List.getElem?_map] at h
    rw [List.getElem?_append_left (by rw [List.length_map, ← r.length]; exact hi), List.getElem?_map]
    cases e : ds[i]? with
    | none => rw [e] at h; cases h
    | some d' =>
      rw [e] at h
      have h : some (some d') = some (some d) := h
      cases h
      obtain ⟨v, h1, h2⟩ := r.get e
      exact ⟨v, by rw [h1]; rfl, h2⟩
  · rw [List.getElem?_append_right (by simpa using Nat.le_of_not_lt hi), List.getElem?_replicate] at h
    split at h
    · cases h
    · cases h
theorem fn_ok {tab : List Ent} (hE : ∀ (i : Nat) (e : Ent), tab[i]? = some e → EOk (ftOf tab) e) (hD : ∀ (i : Nat) (e : Ent), tab[i]? = some e → DIn K mg e) (hb : Blts mg) :
    ∀ (n i : Nat) (e : Ent) (f : Addr) (fd : FuncData), tab[i]? = some e → DAt K mg e f fd → FnOk P w K mg base (L2.CX P w) n f fd e.ps (spM K mg e.ps.length (callT (tabT tab) n i)) := by
  intro n
  induction n with
  | zero =>
    intro i e f fd he dat
    have no : ∀ vs H Q E, ¬ spM K mg e.ps.length (callT (tabT tab) 0 i) vs H Q E := fun vs H Q E ⟨m, S, ds, h1, h2, h3, h4⟩ => h4
    exact ⟨fun vs H Q E h => absurd h (no vs H Q E), fun A outer s H args us vs Q E _ _ _ _ h => absurd h (no vs H Q E)⟩
  | succ n ih =>
    intro i e f fd he dat
    have ok := hE i e he
    refine dat.fn.okX ok.sc (fun vs H Q E ⟨m, S, ds, h1, h2, h3, h4⟩ => by rw [← h2.length, h3]) (fun cdv A outer s H vs Q E hr ⟨m, S, ds, h1, h2, h3, h4⟩ => ?_)
    have fo : FOk (cxOf (L2.CX P w) P w K mg base e.N e.name (defScope e.st) f cdv A outer s H E) (callT (tabT tab) n) (ftOf tab) := by
      refine ⟨fun g id ar hg => ?_, hb.blt, hb.isi, hb.rng, hb.ty⟩
      obtain ⟨e', q1, q2, q3⟩ := idxOf_some hg
      obtain ⟨a, fd', D'⟩ := hD id e' q1
      subst q2 q3
      exact ⟨a, fd', e'.ps, n, ih id e' a fd' q1 D', hr, D'.mgf, D'.fn.kp, .all D'.bind⟩
    have hcom := ok.com
    unfold comF at hcom
    split at hcom
    · rename_i b hb2
      have hfn : e.fn = ⟨(defArgs e.st).args.length, e.N.length, b⟩ := (Option.some.inj hcom).symm
      have hbody : e.fn.body = b := by rw [hfn]
      have w2 : SOk (cxOf (L2.CX P w) P w K mg base e.N e.name (defScope e.st) f cdv A outer s H E) (defScope e.st) e.N (callT (tabT tab) n) (ftOf tab) (fun cls d _ H => E cls d H) :=
        { hN := rfl, sc := rfl, nd := ok.sc.nd, calm := rfl, hu := (by
            have h := hr.un
            have e2 : (cxOf (L2.CX P w) P w K mg base e.N e.name (defScope e.st) f cdv A outer s H E).A = A.deeper (envOfC e.name (defScope e.st) s.heap.objs.size f cdv) := rfl
            rw [e2]
            omega),
          fo := fo, tk := takes_of rfl rfl rfl rfl, put := fun x j hx => ⟨(locOf_some hx).1, (locOf_some hx).2, .inl rfl⟩, pass := passes_of rfl, kind := ok.sc.kind }
      refine ⟨_, comSs_ok hb2 fun s0 r hr0 => comS_ok w2 _ s0 r hr0, m, _, S, ER.start h2 h3, h1, ?_⟩
      rw [show callT (tabT tab) (n + 1) i ds = runF (callT (tabT tab) n) e.fn ds by unfold callT; rw [show tabT tab i = some e.fn by unfold tabT; rw [he]; rfl]] at h4
      unfold runF at h4
      rw [if_pos (by rw [h3, ok.np])] at h4
      rw [ok.nv, ok.np, hbody] at h4
      cases er : exB (callT (tabT tab) n) b (ds.map some ++ List.replicate (e.N.length - e.ps.length) none) S with
      | stuck => rw [er] at h4; exact h4.elim
      | exc c d S1 => rw [er] at h4; exact h4.elim
      | ok fl S1 =>
        rw [er] at h4
        cases fl with
        | nx en => exact fun m' H' g sr σ er' => (show post K _ m H (.ok D.non S1) _ from h4) m' H' g sr _ .non
        | brk en => exact h4.elim
        | cnt en => exact h4.elim
        | ret d => exact fun m' H' g sr v rv => (show post K _ m H (.ok d S1) _ from h4) m' H' g sr v rv
        | exc c d en => exact fun m' H' g sr σ cls dd er' hx => (show post K _ m H (.exc c d S1) _ from h4) m' H' g sr cls dd hx
    · cases hcom
/-- THE END: the law's def answers True -/
theorem walk_nl {l : PySem.W.OpenLaw} {q : Program} {loose : List Str} {XP : (Str → Option Value) → Heap → Prop} {YP : World → Heap → Prop} {d : DefRec} {K : Params → PySem.W.Frag} {tab : List Ent} {n i : Nat} {e : Ent}
    (hn : l.most = some 63) (hdf : d.params.defaults = []) (hr : Room n callerA) (hY : ∀ (w : World) (h : Heap), YP w h → (K w.params).In h)
    (hi : tab[i]? = some e) (hnm : e.name = d.name) (hps : e.ps = [("_law_script" : Str)]) (hE : ∀ (i : Nat) (e : Ent), tab[i]? = some e → EOk (ftOf tab) e)
    (F : ∀ (w : World) (mg : Str → Option Value) (h : Heap), (K w.params).In h → h.Ns mainGlobals mg → Blts mg ∧ ∀ (i : Nat) (e : Ent), tab[i]? = some e → DIn (K w.params) mg e)
    (law : ∀ ns : List Int, ns.length ≤ 63 → (∀ z ∈ ns, Builtin.Int.intBits z ≤ 1048576) → ∃ S', callT (tabT tab) n i [.ref 0] [.frz (ns.map D.int)] = .ok (.bl true) S') :
    PySem.W.WalkO q loose XP YP l.row.toRowW d [] (fun f vs => PySem.call f vs) := by
  refine L2.walk_ofB (n := 63) (k := n) (x := "_law_script") (CX := fun w => L2.CX l.prog w) (sp := fun w vs H Q E => ∀ mg, spM (K w.params) mg 1 (callT (tabT tab) n i) vs H Q E) hn (by decide) hdf hr hY ?_ ?_ ?_
  · intro w mg fa h KX G hmg
    obtain ⟨hb, hD⟩ := F w mg h KX G
    obtain ⟨f0, fd0, D0⟩ := hD i e hi
    have hm0 := D0.mgf
    rw [hnm, hmg] at hm0
    cases hm0
    refine ⟨fd0, fun s u => ?_, fun base hK hN => ?_⟩
    · have hb1 := D0.bind [u] (by rw [hps]; rfl)
      rw [hps] at hb1
      exact .of_eq hb1
    · have G := fn_ok (P := l.prog) (w := w) (base := base) hE hD hb n i e _ _ hi D0
      rw [hps] at G
      exact G.imp fun vs H Q E h => h mg
  · intro w H a ns hlen hbits hO hS
    refine fun mg => ⟨[a], [.frz (ns.map D.int)], [.ref 0], ?_, .cons (.ref rfl) .nil, rfl, ?_⟩
    · refine ⟨rfl, fun l o b h1 h2 => ?_, fun l l' b o o' h1 h2 h3 h4 h5 h6 => ?_⟩
      · cases l with
        | succ l => simp at h1
        | zero =>
          cases h1
          cases h2
          refine ⟨ns.map V.int, ?_, Reps.ints ns⟩
          rcases hS with hS | hS
          · rcases hS with hS | ⟨ob, hS⟩
            · rcases hO a with h | ⟨o, xs, h⟩
              · rw [hS] at h; cases h
              · rw [hS] at h; cases h
            · exact .inl ⟨ob, hS⟩
          · exact .inr hS
      · cases l with
        | succ l => simp at h1
        | zero => cases h3; cases h5
    · obtain ⟨S', e⟩ := law ns hlen hbits
      rw [e]
      intro m' H' g s w hw
      cases hw
      rfl
  · intro w H s e s' h
    obtain ⟨_, _, _, _, _, _, _, _, _, _, _, _, z⟩ := h
    exact z.elim
end
end NL

/-! Values as trees, lists by value: a second reading above the store. -/
namespace VL
open PySem PySem.Spec PyProof.Rows L2 NL
/-- a value, all of it -/
inductive U where
  | non | bl (b : Bool) | int (i : Int) | str (x : Str) | tup (xs : List U) | lst (xs : List U) | frz (xs : List U)
  deriving Inhabited
inductive VR (α : Type) where
  | ok (a : α) | exc (c : Str) (u : U) | stuck
def VR.bind {α β : Type} (r : VR α) (f : α → VR β) : VR β := match r with
  | .ok a => f a
  | .exc c u => .exc c u
  | .stuck => .stuck
theorem VR.bind_ok {α β : Type} {r : VR α} {f : α → VR β} {b : β} (h : r.bind f = .ok b) : ∃ a, r = .ok a ∧ f a = .ok b := by
  cases r with
  | ok a => exact ⟨a, rfl, h⟩
  | exc c u => cases h
  | stuck => cases h
/-! ### a tree is read at a place of the store, past the places of B -/
mutual
inductive Rd (B : Nat → Prop) (S : Store) : D → U → Prop
  | non : Rd B S .non .non
  | bl (b : Bool) : Rd B S (.bl b) (.bl b)
  | int (i : Int) : Rd B S (.int i) (.int i)
  | str (x : Str) : Rd B S (.str x) (.str x)
  | tup {ds : List D} {us : List U} : Rds B S ds us → Rd B S (.tup ds) (.tup us)
  | lst {l : Nat} {xs : List D} {us : List U} : ¬ B l → S[l]? = some (.lst xs) → Rds B S xs us → Rd B S (.ref l) (.lst us)
  | frz {l : Nat} {xs : List D} {us : List U} : ¬ B l → S[l]? = some (.frz xs) → Rds B S xs us → Rd B S (.ref l) (.frz us)
inductive Rds (B : Nat → Prop) (S : Store) : List D → List U → Prop
  | nil : Rds B S [] []
  | cons {d : D} {u : U} {ds : List D} {us : List U} : Rd B S d u → Rds B S ds us → Rds B S (d :: ds) (u :: us)
end
mutual
theorem Rd.mono {B B' : Nat → Prop} {S S' : Store} (g : ∀ l o, ¬ B l → S[l]? = some o → ¬ B' l ∧ S'[l]? = some o) : ∀ {d : D} {u : U}, Rd B S d u → Rd B' S' d u
  | _, _, .non => .non
  | _, _, .bl b => .bl b
  | _, _, .int i => .int i
  | _, _, .str x => .str x
  | _, _, .tup r => .tup (Rds.mono g r)
  | _, _, .lst h1 h2 r => .lst (g _ _ h1 h2).1 (g _ _ h1 h2).2 (Rds.mono g r)
  | _, _, .frz h1 h2 r => .frz (g _ _ h1 h2).1 (g _ _ h1 h2).2 (Rds.mono g r)
theorem Rds.mono {B B' : Nat → Prop} {S S' : Store} (g : ∀ l o, ¬ B l → S[l]? = some o → ¬ B' l ∧ S'[l]? = some o) : ∀ {ds : List D} {us : List U}, Rds B S ds us → Rds B' S' ds us
  | _, _, .nil => .nil
  | _, _, .cons a r => .cons (Rd.mono g a) (Rds.mono g r)
end
/-- growing -/
def Gw (S S' : Store) : Prop := ∃ U, S' = S ++ U
theorem Gw.refl (S : Store) : Gw S S := ⟨[], by simp⟩
theorem Gw.trans {S S1 S2 : Store} (a : Gw S S1) (b : Gw S1 S2) : Gw S S2 := by
  obtain ⟨U, rfl⟩ := a
  obtain ⟨V, rfl⟩ := b
  exact ⟨U ++ V, by simp⟩
theorem Gw.get {S S' : Store} (g : Gw S S') {l : Nat} {o : Ob} (h : S[l]? = some o) : S'[l]? = some o := by
  obtain ⟨U, rfl⟩ := g
  rw [List.getElem?_append_left (List.getElem?_eq_some_iff.mp h).1]
  exact h
theorem Gw.len {S S' : Store} (g : Gw S S') : S.length ≤ S'.length := by
  obtain ⟨U, rfl⟩ := g
  simp
theorem Gw.app {S U : Store} : Gw S (S ++ U) := ⟨U, rfl⟩
theorem lt_of_get {S : Store} {l : Nat} {o : Ob} (h : S[l]? = some o) : l < S.length := (List.getElem?_eq_some_iff.mp h).1
section
variable {B : Nat → Prop} {S S' : Store}
theorem Rd.gw (g : Gw S S') {d : D} {u : U} (r : Rd B S d u) : Rd B S' d u := r.mono fun l o h1 h2 => ⟨h1, g.get h2⟩
theorem Rds.gw (g : Gw S S') {ds : List D} {us : List U} (r : Rds B S ds us) : Rds B S' ds us := r.mono fun l o h1 h2 => ⟨h1, g.get h2⟩
theorem Rds.length : ∀ {ds : List D} {us : List U}, Rds B S ds us → ds.length = us.length
  | _, _, .nil => rfl
  | _, _, .cons _ t => by rw [List.length_cons, List.length_cons, Rds.length t]
theorem Rds.get : ∀ {ds : List D} {us : List U} {i : Nat} {u : U}, Rds B S ds us → us[i]? = some u → ∃ d, ds[i]? = some d ∧ Rd B S d u
  | _, _, i, u, .nil, e => by simp at e
  | _, _, 0, u, .cons r _, e => by simp at e; subst e; exact ⟨_, rfl, r⟩
  | _, _, i + 1, u, .cons _ t, e => by
    obtain ⟨v, h1, h2⟩ := Rds.get (i := i) t (by simpa using e)
    exact ⟨v, by simpa using h1, h2⟩
theorem Rds.append : ∀ {ds es : List D} {us vs : List U}, Rds B S ds us → Rds B S es vs → Rds B S (ds ++ es) (us ++ vs)
  | _, _, _, _, .nil, s => s
  | _, _, _, _, .cons r t, s => .cons r (Rds.append t s)
theorem Rds.take : ∀ {ds : List D} {us : List U} (n : Nat), Rds B S ds us → Rds B S (ds.take n) (us.take n)
  | _, _, 0, _ => by rw [List.take_zero, List.take_zero]; exact .nil
  | _, _, _ + 1, .nil => by rw [List.take_nil, List.take_nil]; exact .nil
  | _, _, n + 1, .cons r t => by rw [List.take_succ_cons, List.take_succ_cons]; exact .cons r (Rds.take n t)
theorem Rds.drop : ∀ {ds : List D} {us : List U} (n : Nat), Rds B S ds us → Rds B S (ds.drop n) (us.drop n)
  | _, _, 0, r => r
  | _, _, _ + 1, .nil => by rw [List.drop_nil, List.drop_nil]; exact .nil
  | _, _, n + 1, .cons _ t => by rw [List.drop_succ_cons, List.drop_succ_cons]; exact Rds.drop n t
theorem Rds.reverse : ∀ {ds : List D} {us : List U}, Rds B S ds us → Rds B S ds.reverse us.reverse
  | _, _, .nil => .nil
  | _, _, .cons r t => by rw [List.reverse_cons, List.reverse_cons]; exact Rds.append (Rds.reverse t) (.cons r .nil)
theorem Rds.set {d : D} {u : U} (r : Rd B S d u) : ∀ {ds : List D} {us : List U} (i : Nat), Rds B S ds us → Rds B S (ds.set i d) (us.set i u)
  | _, _, _, .nil => .nil
  | _, _, 0, .cons _ t => .cons r t
  | _, _, i + 1, .cons q t => .cons q (Rds.set r i t)
theorem Rds.flat_rep {ds : List D} {us : List U} (r : Rds B S ds us) : ∀ n : Nat, Rds B S (List.replicate n ds).flatten (List.replicate n us).flatten
  | 0 => .nil
  | n + 1 => by
    rw [List.replicate_succ, List.replicate_succ, List.flatten_cons, List.flatten_cons]
    exact r.append (Rds.flat_rep r n)
end
/-! ### no list within -/
mutual
def noL : U → Bool
  | .lst _ => false
  | .frz _ => false
  | .tup xs => noLs xs
  | _ => true
def noLs : List U → Bool
  | [] => true
  | x :: r => noL x && noLs r
end
mutual
theorem Rd.of_noL {B B' : Nat → Prop} {S S' : Store} : ∀ {d : D} {u : U}, Rd B S d u → noL u = true → Rd B' S' d u
  | _, _, .non, _ => .non
  | _, _, .bl b, _ => .bl b
  | _, _, .int i, _ => .int i
  | _, _, .str x, _ => .str x
  | _, _, .tup r, h => .tup (Rds.of_noL r (by unfold noL at h; exact h))
  | _, _, .lst _ _ _, h => by unfold noL at h; exact absurd h Bool.false_ne_true
  | _, _, .frz _ _ _, h => by unfold noL at h; exact absurd h Bool.false_ne_true
theorem Rds.of_noL {B B' : Nat → Prop} {S S' : Store} : ∀ {ds : List D} {us : List U}, Rds B S ds us → noLs us = true → Rds B' S' ds us
  | _, _, .nil, _ => .nil
  | _, _, .cons a r, h => by
    unfold noLs at h
    rw [Bool.and_eq_true] at h
    exact .cons (Rd.of_noL a h.1) (Rds.of_noL r h.2)
end
/-! ### as plain data, in order -/
def pdU : Nat → U → Option PyData
  | _, .non => some .none
  | _, .bl b => some (.bool b)
  | _, .int i => some (.int i)
  | _, .str x => if PyData.strOk x = true then some (.str x) else none
  | 0, .tup _ => none
  | 0, .lst _ => none
  | 0, .frz _ => none
  | k + 1, .tup xs => (mapO (pdU k) xs).map .tuple
  | k + 1, .lst xs => (mapO (pdU k) xs).map .list
  | k + 1, .frz xs => (mapO (pdU k) xs).map .list
theorem Rds.mapO {B : Nat → Prop} {S : Store} {α : Type} {f : D → Option α} {g : U → Option α} (h : ∀ d u, Rd B S d u → f d = g u) : ∀ {ds : List D} {us : List U}, Rds B S ds us → NL.mapO f ds = NL.mapO g us
  | _, _, .nil => rfl
  | _, _, .cons a r => by
    unfold NL.mapO
    rw [h _ _ a, Rds.mapO h r]
theorem pd_rd {B : Nat → Prop} {S : Store} : ∀ (k : Nat) (d : D) (u : U), Rd B S d u → pd S k d = pdU k u
  | 0, d, u, h => by cases h <;> rfl
  | k + 1, d, u, h => by
    cases h with
    | tup r => unfold pd pdU; rw [Rds.mapO (pd_rd k) r]
    | lst h1 h2 r =>
      unfold pd pdU
      rw [h2]
      show (NL.mapO (pd S k) _).map _ = _
      rw [← Rds.mapO (pd_rd k) r]; rfl
    | frz h1 h2 r =>
      unfold pd pdU
      rw [h2]
      show (NL.mapO (pd S k) _).map _ = _
      rw [← Rds.mapO (pd_rd k) r]; rfl
    | _ => rfl
/-- .. without lists -/
def pdT : Nat → U → Option PyData
  | _, .non => some .none
  | _, .bl b => some (.bool b)
  | _, .int i => some (.int i)
  | _, .str x => if PyData.strOk x = true then some (.str x) else none
  | 0, .tup _ => none
  | _, .lst _ => none
  | _, .frz _ => none
  | k + 1, .tup xs => (mapO (pdT k) xs).map .tuple
theorem pd_rdT {B : Nat → Prop} {S : Store} : ∀ (k : Nat) (d : D) (u : U), Rd B S d u → pd [] k d = pdT k u
  | 0, d, u, h => by cases h <;> first | rfl | (unfold pdT; rfl)
  | k + 1, d, u, h => by
    cases h with
    | tup r => unfold pd pdT; rw [Rds.mapO (pd_rdT k) r]
    | lst h1 h2 r => unfold pd pdT; simp
    | frz h1 h2 r => unfold pd pdT; simp
    | _ => rfl
def eqU (x y : U) : Option Bool := match pdU 12 x, pdU 12 y with
  | some p, some q => some (PyData.eqv p q)
  | _, _ => none
def eqT (x y : U) : Option Bool := match pdT 12 x, pdT 12 y with
  | some p, some q => some (PyData.eqv p q)
  | _, _ => none
section
variable {B : Nat → Prop} {S : Store} {d e : D} {x y : U}
theorem eq_rd (r : Rd B S d x) (q : Rd B S e y) : eqD S d e = eqU x y := by
  unfold eqD eqU
  rw [pd_rd 12 d x r, pd_rd 12 e y q] <;> rfl
theorem eq_rdT (r : Rd B S d x) (q : Rd B S e y) : eqD [] d e = eqT x y := by
  unfold eqD eqT
  rw [pd_rdT 12 d x r, pd_rdT 12 e y q] <;> rfl
def lexU (o : Cop) (f : U → U → Option Bool) : List U → List U → Option Bool
  | [], [] => some (ord4 o 0 0)
  | [], _ :: _ => some (ord4 o 0 1)
  | _ :: _, [] => some (ord4 o 1 0)
  | x :: xs, y :: ys => match eqT x y with
    | some true => lexU o f xs ys
    | some false => f x y
    | none => none
def ordC (f : U → U → Option Bool) (p : U × U) : Bool := match eqT p.1 p.2 with
  | some true => true
  | some false => (f p.1 p.2).isSome
  | none => false
def ordU (o : Cop) : Nat → U → U → Option Bool
  | _, .int i, .int j => some (ord4 o i j)
  | k + 1, .tup xs, .tup ys => if (xs.zip ys).all (ordC (ordU o k)) = true then lexU o (ordU o k) xs ys else none
  | _, _, _ => none
theorem lex_rd {o : Cop} {f : D → D → Option Bool} {g : U → U → Option Bool} (h : ∀ d e x y, Rd B S d x → Rd B S e y → f d e = g x y) : ∀ {ds es : List D} {xs ys : List U}, Rds B S ds xs → Rds B S es ys → lexO o f ds es = lexU o g xs ys
  | _, _, _, _, .nil, .nil => rfl
  | _, _, _, _, .nil, .cons _ _ => rfl
  | _, _, _, _, .cons _ _, .nil => rfl
  | _, _, _, _, .cons a r, .cons b s => by
    unfold lexO lexU
    rw [eq_rdT a b, lex_rd h r s, h _ _ _ _ a b] <;> rfl
theorem all_rd {f : D × D → Bool} {g : U × U → Bool} (h : ∀ d e x y, Rd B S d x → Rd B S e y → f (d, e) = g (x, y)) : ∀ {ds es : List D} {xs ys : List U}, Rds B S ds xs → Rds B S es ys → (ds.zip es).all f = (xs.zip ys).all g
  | _, _, _, _, .nil, _ => by simp
  | _, _, _, _, .cons _ _, .nil => by simp
  | _, _, _, _, .cons a r, .cons b s => by
    rw [List.zip_cons_cons, List.zip_cons_cons, List.all_cons, List.all_cons, h _ _ _ _ a b, all_rd h r s]
theorem ite2 {a b : Bool} {x y : Option Bool} (h : a = b) (k : x = y) : (if a = true then x else none) = if b = true then y else none := by rw [h, k]
theorem ord_rd (o : Cop) : ∀ (k : Nat) (d e : D) (x y : U), Rd B S d x → Rd B S e y → ordD o k d e = ordU o k x y
  | 0, d, e, x, y, r, q => by cases r <;> cases q <;> first | rfl | (unfold ordD ordU; rfl)
  | k + 1, d, e, x, y, r, q => by
    cases r with
    | tup r =>
      cases q with
      | tup q =>
        have e1 := all_rd (f := fun p => match eqD [] p.1 p.2 with | some true => true | some false => (ordD o k p.1 p.2).isSome | none => false) (g := ordC (ordU o k)) (fun d e x y a b => by
          show (match eqD [] d e with | some true => true | some false => (ordD o k d e).isSome | none => false) = (match eqT x y with | some true => true | some false => (ordU o k x y).isSome | none => false)
          rw [eq_rdT a b, ord_rd o k d e x y a b]) r q
        have e2 := lex_rd (o := o) (fun d e x y a b => ord_rd o k d e x y a b) r q
        unfold ordD ordU
        exact ite2 e1 e2
      | _ => unfold ordD ordU; rfl
    | int i =>
      cases q <;> first | rfl | (unfold ordD ordU; rfl)
    | _ => cases q <;> first | rfl | (unfold ordD ordU; rfl)
end
end VL

/-! Operations on trees. -/
namespace VL
open PySem PySem.Spec PyProof.Rows L2 NL
def Bnd (B : Nat → Prop) (S : Store) : Prop := ∀ l, B l → l < S.length
theorem Bnd.gw {B : Nat → Prop} {S S' : Store} (b : Bnd B S) (g : Gw S S') : Bnd B S' := fun l h => Nat.lt_of_lt_of_le (b l h) g.len
/-- an answer is read so -/
def Ok1 (B : Nat → Prop) (S : Store) (r : R D) (u : U) : Prop := ∃ d S1, r = .ok d S1 ∧ Gw S S1 ∧ Rd B S1 d u
/-- a new list -/
def FrD (B : Nat → Prop) (b : Nat) (S1 : Store) (d : D) (u : U) : Prop := ∃ l xs us, d = .ref l ∧ b ≤ l ∧ u = .lst us ∧ S1[l]? = some (.lst xs) ∧ Rds (fun k => B k ∨ k = l) S1 xs us
/-- .. which is new where it is a list -/
def OkF (B : Nat → Prop) (S : Store) (r : R D) (u : U) : Prop := ∃ d S1, r = .ok d S1 ∧ Gw S S1 ∧ Rd B S1 d u ∧ ((∃ us, u = .lst us) → FrD B S.length S1 d u)
section
variable {B : Nat → Prop} {S : Store}
theorem OkF.ok1 {r : R D} {u : U} (h : OkF B S r u) : Ok1 B S r u := by
  obtain ⟨d, S1, h1, h2, h3, _⟩ := h
  exact ⟨d, S1, h1, h2, h3⟩
theorem OkF.now {d : D} {u : U} (r : Rd B S d u) (h : ∀ us, u ≠ .lst us) : OkF B S (.ok d S) u := ⟨d, S, rfl, .refl S, r, fun ⟨us, e⟩ => absurd e (h us)⟩
theorem OkF.new (b : Bnd B S) {ds : List D} {us : List U} (r : Rds B S ds us) : OkF B S (NL.alloc (.lst ds) S) (.lst us) := by
  have nb : ¬ B S.length := fun h => Nat.lt_irrefl _ (b _ h)
  have e : (S ++ [Ob.lst ds])[S.length]? = some (.lst ds) := by simp
  refine ⟨.ref S.length, S ++ [.lst ds], rfl, .app, .lst nb e (r.gw .app), fun _ => ⟨S.length, ds, us, rfl, Nat.le_refl _, rfl, e, ?_⟩⟩
  refine r.mono fun l o h1 h2 => ⟨?_, Gw.get .app h2⟩
  rintro (h | h)
  · exact h1 h
  · have := lt_of_get h2; omega
theorem FrD.gw {b : Nat} {S1 S2 : Store} {d : D} {u : U} (h : FrD B b S1 d u) (g : Gw S1 S2) : FrD B b S2 d u := by
  obtain ⟨l, xs, us, h1, h2, h3, h4, h5⟩ := h
  exact ⟨l, xs, us, h1, h2, h3, g.get h4, h5.gw g⟩
theorem FrD.le {b b' : Nat} {S1 : Store} {d : D} {u : U} (h : FrD B b S1 d u) (g : b' ≤ b) : FrD B b' S1 d u := by
  obtain ⟨l, xs, us, h1, h2, h3⟩ := h
  exact ⟨l, xs, us, h1, Nat.le_trans g h2, h3⟩
theorem OkF.gw {S1 : Store} {r : R D} {u : U} (g : Gw S S1) (h : OkF B S1 r u) : OkF B S r u := by
  obtain ⟨d, S2, h1, h2, h3, h4⟩ := h
  exact ⟨d, S2, h1, g.trans h2, h3, fun e => (h4 e).le g.len⟩
theorem Ok1.gw {S1 : Store} {r : R D} {u : U} (g : Gw S S1) (h : Ok1 B S1 r u) : Ok1 B S r u := by
  obtain ⟨d, S2, h1, h2, h3⟩ := h
  exact ⟨d, S2, h1, g.trans h2, h3⟩
theorem getL_rd {l : Nat} {us : List U} (r : Rd B S (.ref l) (.lst us)) : ∃ ds, getL l S = .ok ds S ∧ Rds B S ds us := by
  cases r with
  | lst h1 h2 h3 => exact ⟨_, by unfold getL; rw [h2]; rfl, h3⟩
theorem getL_fz {l : Nat} {us : List U} (r : Rd B S (.ref l) (.frz us)) : ∃ ds, getL l S = .ok ds S ∧ Rds B S ds us := by
  cases r with
  | frz h1 h2 h3 => exact ⟨_, by unfold getL; rw [h2]; rfl, h3⟩
/-- the items of a list or of a tuple -/
def sqU : U → Option (List U)
  | .lst xs => some xs
  | .frz xs => some xs
  | _ => none
theorem sq_rd {d : D} {u : U} {us : List U} (r : Rd B S d u) (h : sqU u = some us) : ∃ l ds, d = .ref l ∧ getL l S = .ok ds S ∧ Rds B S ds us := by
  cases r <;> first | (cases h; done) | skip
  · rename_i l xs vs h1 h2 h3
    cases h
    obtain ⟨ds, g1, g2⟩ := getL_rd (Rd.lst h1 h2 h3)
    exact ⟨l, ds, rfl, g1, g2⟩
  · rename_i l xs vs h1 h2 h3
    cases h
    obtain ⟨ds, g1, g2⟩ := getL_fz (Rd.frz h1 h2 h3)
    exact ⟨l, ds, rfl, g1, g2⟩
end
open Classical in
noncomputable def binU : Bop → U → U → VR U
  | .add, .int i, .int j => .ok (.int (i + j))
  | .add, .lst xs, .lst ys => if xs.length + ys.length ≤ sizeLine then .ok (.lst (xs ++ ys)) else .stuck
  | .sub, .int i, .int j => .ok (.int (i - j))
  | .mul, .int i, .int j => if MulOk i j then .ok (.int (i * j)) else .stuck
  | .mul, .lst xs, .int n => if -(2 ^ 63) ≤ n ∧ n < 2 ^ 63 ∧ xs.length * n.toNat ≤ sizeLine then .ok (.lst (List.replicate n.toNat xs).flatten) else .stuck
  | .fdiv, .int i, .int j => if j ≠ 0 ∧ j.natAbs.log2 < 9000 then .ok (.int (i.fdiv j)) else .stuck
  | .mod, .int i, .int j => if j ≠ 0 then .ok (.int (i.fmod j)) else .stuck
  | .pow, .int i, .int j => if 0 ≤ j ∧ (Builtin.Int.intBits i : Int) * j ≤ 2 ^ 27 then .ok (.int (i ^ j.toNat)) else .stuck
  | _, _, _ => .stuck
def negU : U → VR U
  | .int i => .ok (.int (-i))
  | _ => .stuck
def isU : U → U → Option Bool
  | x, .non => some (match x with | .non => true | _ => false)
  | x, .bl b => some (match x with | .bl c => b == c | _ => false)
  | _, _ => none
def inU (x y : U) : Option Bool :=
  match y with
  | .tup ys => (match pdU 12 x, mapO (pdU 12) ys with
    | some p, some qs => some (qs.any fun q => PyData.eqv q p)
    | _, _ => none)
  | y => (match sqU y with
    | some ys => (match pdU 12 x, mapO (pdU 12) ys with
      | some p, some qs => some (qs.any fun q => PyData.eqv q p)
      | _, _ => none)
    | none => none)
def ofU (b : Option Bool) : VR U := match b with
  | some b => .ok (.bl b)
  | none => .stuck
def cmpU : Cop → U → U → VR U
  | .eq, x, y => ofU (eqU x y)
  | .ne, x, y => ofU ((eqU x y).map (!·))
  | .isIn, x, y => ofU (inU x y)
  | .notIn, x, y => ofU ((inU x y).map (!·))
  | .is_, x, y => ofU (isU x y)
  | .isNot, x, y => ofU ((isU x y).map (!·))
  | o, x, y => ofU (ordU o 12 x y)
def ixU : U → U → VR U
  | .tup xs, .int i => match atI xs i with | some d => .ok d | none => .stuck
  | x, .int i => match sqU x with
    | some xs => (match atI xs i with | some d => .ok d | none => .stuck)
    | none => .stuck
  | _, _ => .stuck
def truU : U → VR Bool
  | .bl b => .ok b
  | _ => .stuck
def bndU : Bool → U → VR (Option Int)
  | false, _ => .ok none
  | true, .int i => .ok (some i)
  | _, _ => .stuck
def cutU (xs : List U) (lo hi : Option Int) : List U := (xs.drop (HT.sIx xs.length 0 lo)).take (HT.sIx xs.length xs.length hi - HT.sIx xs.length 0 lo)
def slcU (x : U) (lo hi : Option Int) : VR U := match sqU x with
  | some xs => .ok (.lst (cutU xs lo hi))
  | none => .stuck
def intsU : List U → Option (List Int)
  | [] => some []
  | .int i :: r => (intsU r).map (i :: ·)
  | _ => none
def bestU (o : Cop) (xs : List U) : Option U :=
  if (xs.all fun x => xs.all fun y => (ordU o 12 x y).isSome) = true then xs[argBest (fun i j => (ordU o 12 (xs.getD i .non) (xs.getD j .non)).getD false) (xs.length - 1)]? else none
def optU (u : Option U) : VR U := match u with
  | some u => .ok u
  | none => .stuck
def mnU (o : Cop) : List U → VR U
  | [.tup xs] => optU (bestU o xs)
  | [x] => match sqU x with
    | some xs => optU (bestU o xs)
    | none => .stuck
  | [a, b] => optU (bestU o [a, b])
  | [a, b, c] => optU (bestU o [a, b, c])
  | [a, b, c, d] => optU (bestU o [a, b, c, d])
  | _ => .stuck
mutual
def toD : U → D
  | .non => .non | .bl b => .bl b | .int i => .int i | .str x => .str x
  | .tup xs => .tup (toDs xs)
  | _ => .non
def toDs : List U → List D
  | [] => []
  | x :: r => toD x :: toDs r
end
mutual
def bkD : D → U
  | .non => .non | .bl b => .bl b | .int i => .int i | .str x => .str x
  | .tup xs => .tup (bkDs xs)
  | _ => .non
def bkDs : List D → List U
  | [] => []
  | x :: r => bkD x :: bkDs r
end
mutual
theorem of_to : ∀ {u : U}, noL u = true → bkD (toD u) = u
  | .non, _ => by unfold toD bkD; rfl
  | .bl _, _ => by unfold toD bkD; rfl
  | .int _, _ => by unfold toD bkD; rfl
  | .str _, _ => by unfold toD bkD; rfl
  | .tup xs, h => by
    unfold noL at h
    unfold toD bkD
    rw [ofs_tos h]
  | .lst _, h => by unfold noL at h; cases h
  | .frz _, h => by unfold noL at h; cases h
theorem ofs_tos : ∀ {us : List U}, noLs us = true → bkDs (toDs us) = us
  | [], _ => by unfold toDs bkDs; rfl
  | u :: us, h => by
    unfold noLs at h
    rw [Bool.and_eq_true] at h
    unfold toDs bkDs
    rw [of_to h.1, ofs_tos h.2]
end
mutual
theorem rd_to {B : Nat → Prop} {S : Store} : ∀ {u : U}, noL u = true → Rd B S (toD u) u
  | .non, _ => by unfold toD; exact .non
  | .bl _, _ => by unfold toD; exact .bl _
  | .int _, _ => by unfold toD; exact .int _
  | .str _, _ => by unfold toD; exact .str _
  | .tup xs, h => by
    unfold noL at h
    unfold toD
    exact .tup (rds_to h)
  | .lst _, h => by unfold noL at h; cases h
  | .frz _, h => by unfold noL at h; cases h
theorem rds_to {B : Nat → Prop} {S : Store} : ∀ {us : List U}, noLs us = true → Rds B S (toDs us) us
  | [], _ => by unfold toDs; exact .nil
  | u :: us, h => by
    unfold noLs at h
    rw [Bool.and_eq_true] at h
    unfold toDs
    exact .cons (rd_to h.1) (rds_to h.2)
end
mutual
theorem rd_is {B : Nat → Prop} {S : Store} : ∀ {d : D} {u : U}, Rd B S d u → noL u = true → d = toD u
  | _, _, .non, _ => by unfold toD; rfl
  | _, _, .bl _, _ => by unfold toD; rfl
  | _, _, .int _, _ => by unfold toD; rfl
  | _, _, .str _, _ => by unfold toD; rfl
  | _, _, .tup r, h => by
    unfold noL at h
    unfold toD
    rw [rds_is r h]
  | _, _, .lst _ _ _, h => by unfold noL at h; cases h
  | _, _, .frz _ _ _, h => by unfold noL at h; cases h
theorem rds_is {B : Nat → Prop} {S : Store} : ∀ {ds : List D} {us : List U}, Rds B S ds us → noLs us = true → ds = toDs us
  | _, _, .nil, _ => by unfold toDs; rfl
  | _, _, .cons a r, h => by
    unfold noLs at h
    rw [Bool.and_eq_true] at h
    unfold toDs
    rw [← rd_is a h.1, ← rds_is r h.2]
end
theorem toDs_map : ∀ us : List U, toDs us = us.map toD
  | [] => by unfold toDs; rfl
  | u :: us => by unfold toDs; rw [toDs_map us]; rfl
/-- sorted -/
noncomputable def sortU (us : List U) : VR U := if noLs us = true then (match sortD (us.map toD) with | some ds => .ok (.lst (ds.map bkD)) | none => .stuck) else .stuck
noncomputable def bltU : Blt → List U → VR U
  | .abs, [.int i] => .ok (.int (if i < 0 then -i else i))
  | .int, [.int i] => .ok (.int i)
  | .int, [.bl b] => .ok (.int (if b = true then 1 else 0))
  | .len, [.tup xs] => .ok (.int xs.length)
  | .len, [x] => match sqU x with | some xs => .ok (.int xs.length) | none => .stuck
  | .min, ds => mnU .lt ds
  | .max, ds => mnU .gt ds
  | .list, [.tup xs] => .ok (.lst xs)
  | .list, [x] => match sqU x with | some xs => .ok (.lst xs) | none => .stuck
  | .tuple, [.tup xs] => .ok (.tup xs)
  | .tuple, [x] => match sqU x with | some xs => .ok (.tup xs) | none => .stuck
  | .sorted, [x] => match sqU x with | some xs => sortU xs | none => .stuck
  | .sum, [x] => match sqU x with | some xs => (match intsU xs with | some ns => .ok (.int ns.sum) | none => .stuck) | none => .stuck
  | _, _ => .stuck
def tyU : U → String
  | .non => "NoneType" | .bl _ => "bool" | .int _ => "int" | .str _ => "str" | .tup _ => "tuple" | .lst _ => "list" | .frz _ => "list"
def isiU (T : Ty) (u : U) : VR U := .ok (.bl (tyU u == T.nm || (tyU u == "bool" && T.nm == "int")))
/-- the items, and whether it is a list -/
def iterU : U → VR (List U × Bool)
  | .tup xs => .ok (xs, false)
  | x => match sqU x with | some xs => .ok (xs, true) | none => .stuck
def rngU : U → U → VR (List U)
  | .int a, .int b => if -(2 ^ 62) ≤ a ∧ a < 2 ^ 62 ∧ -(2 ^ 62) ≤ b ∧ b < 2 ^ 62 then .ok ((List.range (b - a).toNat).map fun k => .int (a + (k : Nat))) else .stuck
  | _, _ => .stuck
def unpU (n : Nat) : U → VR (List U)
  | .tup xs => if xs.length = n then .ok xs else .stuck
  | x => match sqU x with
    | some xs => if xs.length = n then .ok xs else .stuck
    | none => .stuck
section
variable {B : Nat → Prop} {S : Store} {d e : D} {x y u : U}
theorem getM_rd {l : Nat} {us : List U} (r : Rd B S (.ref l) (.lst us)) : ∃ ds, getM l S = .ok ds S ∧ Rds B S ds us := by
  cases r with
  | lst h1 h2 h3 => exact ⟨_, by unfold getM; rw [h2], h3⟩
theorem bin_ok (b : Bnd B S) {o : Bop} (r : Rd B S d x) (q : Rd B S e y) (h : binU o x y = .ok u) : OkF B S (binD o d e S) u := by
  unfold binU at h
  split at h
  · cases r; cases q; cases h
    exact .now (.int _) (by intro us z; cases z)
  · rename_i us1 us2
    split at h
    · rename_i hc
      cases h
      obtain ⟨l1, rfl⟩ : ∃ l, d = .ref l := by cases r; exact ⟨_, rfl⟩
      obtain ⟨l2, rfl⟩ : ∃ l, e = .ref l := by cases q; exact ⟨_, rfl⟩
      obtain ⟨ds1, g1, r1⟩ := getM_rd r
      obtain ⟨ds2, g2, r2⟩ := getM_rd q
      show OkF B S ((getM l1 >>= fun xs => getM l2 >>= fun ys => if xs.length + ys.length ≤ sizeLine then NL.alloc (.lst (xs ++ ys)) else die) S) _
      rw [bind_eq, g1]
      show OkF B S ((getM l2 >>= fun ys => if ds1.length + ys.length ≤ sizeLine then NL.alloc (.lst (ds1 ++ ys)) else die) S) _
      rw [bind_eq, g2]
      show OkF B S ((if ds1.length + ds2.length ≤ sizeLine then NL.alloc (.lst (ds1 ++ ds2)) else die) S) _
      rw [if_pos (by rw [r1.length, r2.length]; exact hc)]
      exact .new b (r1.append r2)
    · cases h
  · cases r; cases q; cases h
    exact .now (.int _) (by intro us z; cases z)
  · rename_i i j
    split at h
    · rename_i hc
      cases r; cases q; cases h
      have e : binD .mul (.int i) (.int j) = pure (.int (i * j)) := by unfold binD; exact if_pos hc
      rw [e]
      exact .now (.int _) (by intro us z; cases z)
    · cases h
  · rename_i us1 n
    split at h
    · rename_i hc
      cases h
      obtain ⟨l1, rfl⟩ : ∃ l, d = .ref l := by cases r; exact ⟨_, rfl⟩
      cases q
      obtain ⟨ds1, g1, r1⟩ := getM_rd r
      show OkF B S ((getM l1 >>= fun xs => if -(2 ^ 63) ≤ n ∧ n < 2 ^ 63 ∧ xs.length * n.toNat ≤ sizeLine then NL.alloc (.lst (List.replicate n.toNat xs).flatten) else die) S) _
      rw [bind_eq, g1]
      show OkF B S ((if -(2 ^ 63) ≤ n ∧ n < 2 ^ 63 ∧ ds1.length * n.toNat ≤ sizeLine then NL.alloc (.lst (List.replicate n.toNat ds1).flatten) else die) S) _
      rw [if_pos (by rw [r1.length]; exact hc)]
      exact .new b (r1.flat_rep _)
    · cases h
  · rename_i i j
    split at h
    · rename_i hc
      cases r; cases q; cases h
      have e : binD .fdiv (.int i) (.int j) = pure (.int (i.fdiv j)) := by unfold binD; exact if_pos hc
      rw [e]
      exact .now (.int _) (by intro us z; cases z)
    · cases h
  · rename_i i j
    split at h
    · rename_i hc
      cases r; cases q; cases h
      have e : binD .mod (.int i) (.int j) = pure (.int (i.fmod j)) := by unfold binD; exact if_pos hc
      rw [e]
      exact .now (.int _) (by intro us z; cases z)
    · cases h
  · rename_i i j
    split at h
    · rename_i hc
      cases r; cases q; cases h
      have e : binD .pow (.int i) (.int j) = pure (.int (i ^ j.toNat)) := by unfold binD; exact if_pos hc
      rw [e]
      exact .now (.int _) (by intro us z; cases z)
    · cases h
  · cases h
theorem neg_ok (r : Rd B S d x) (h : negU x = .ok u) : OkF B S (negD d S) u := by
  cases r <;> first | (unfold negU at h; cases h; done) | skip
  all_goals (unfold negU at h; cases h; exact .now (.int _) (by intro us z; cases z))
theorem ofU_ok {b : Option Bool} (h : ofU b = .ok u) : ∃ t, b = some t ∧ u = .bl t := by
  cases b with
  | none => cases h
  | some t => cases h; exact ⟨t, rfl, rfl⟩
theorem ofB_ok {b : Option Bool} (h : ofU b = .ok u) : OkF B S (ofB b S) u := by
  obtain ⟨t, rfl, rfl⟩ := ofU_ok h
  exact .now (.bl t) (by intro us z; cases z)
theorem is_rd (r : Rd B S d x) (q : Rd B S e y) : isD d e = isU x y := by
  cases q <;> cases r <;> rfl
theorem in_rd {t : Bool} (r : Rd B S d x) (q : Rd B S e y) (h : inU x y = some t) : inD S d e = some t := by
  unfold inU at h
  split at h
  · cases q
    rename_i q
    unfold inD
    rw [← pd_rd 12 d x r, ← q.mapO (pd_rd 12)] at h
    exact h
  · split at h
    · rename_i ys hy
      obtain ⟨l, ds, rfl, g1, g2⟩ := sq_rd q hy
      rw [← pd_rd 12 d x r, ← g2.mapO (pd_rd 12)] at h
      unfold inD
      unfold getL at g1
      dsimp only
      cases e : S[l]? with
      | none => rw [e] at g1; cases g1
      | some o =>
        rw [e] at g1
        cases g1
        exact h
    · cases h
theorem cmp_ok {o : Cop} (r : Rd B S d x) (q : Rd B S e y) (h : cmpU o x y = .ok u) : OkF B S (cmpD o d e S) u := by
  cases o
  case eq => exact ofB_ok (by rw [eq_rd r q]; exact h)
  case ne => exact ofB_ok (by rw [eq_rd r q]; exact h)
  case isIn =>
    obtain ⟨t, h1, rfl⟩ := ofU_ok h
    refine ofB_ok (b := inD S d e) ?_
    rw [in_rd r q h1]; rfl
  case notIn =>
    obtain ⟨t, h1, rfl⟩ := ofU_ok h
    obtain ⟨t', h2, rfl⟩ := Option.map_eq_some_iff.mp h1
    refine ofB_ok (b := (inD S d e).map (!·)) ?_
    rw [in_rd r q h2]; rfl
  case is_ => exact ofB_ok (by rw [is_rd r q]; exact h)
  case isNot => exact ofB_ok (by rw [is_rd r q]; exact h)
  all_goals exact ofB_ok (by rw [ord_rd _ 12 d e x y r q]; exact h)
theorem Rds.atI {ds : List D} {us : List U} {i : Int} (r : Rds B S ds us) (h : atI us i = some u) : ∃ d, L2.atI ds i = some d ∧ Rd B S d u := by
  unfold L2.atI at h ⊢
  rw [r.length]
  obtain ⟨j, h1, h2⟩ := Option.bind_eq_some_iff.mp h
  obtain ⟨d, h3, h4⟩ := r.get h2
  exact ⟨d, by rw [h1]; exact h3, h4⟩
theorem ix_ok (r : Rd B S d x) (q : Rd B S e y) (h : ixU x y = .ok u) : Ok1 B S (ixD d e S) u := by
  unfold ixU at h
  split at h
  · cases r; cases q
    rename_i i _ r
    split at h
    · rename_i u' hu
      cases h
      obtain ⟨d', h1, h2⟩ := r.atI hu
      refine ⟨d', S, ?_, .refl S, h2⟩
      unfold ixD
      dsimp only
      rw [h1]
      rfl
    · cases h
  · cases q
    rename_i i _
    split at h
    · rename_i xs hx
      obtain ⟨l, ds, rfl, g1, g2⟩ := sq_rd r hx
      split at h
      · rename_i u' hu
        cases h
        obtain ⟨d', h1, h2⟩ := g2.atI hu
        refine ⟨d', S, ?_, .refl S, h2⟩
        show (getL l >>= fun xs => match L2.atI xs i with | some d => (pure d : M D) | none => die) S = _
        rw [bind_eq, g1]
        show (match L2.atI ds i with | some d => (pure d : M D) | none => die) S = _
        rw [h1]
        rfl
      · cases h
    · cases h
  · cases h
theorem tru_ok {t : Bool} (r : Rd B S d x) (h : truU x = .ok t) : truD d S = .ok t S := by
  cases r <;> first | (cases h; done) | skip
  cases h
  rfl
theorem bnd_ok {p : Bool} {t : Option Int} (r : Rd B S d x) (h : bndU p x = .ok t) : bndM p d S = .ok t S := by
  cases p
  · cases r <;> (cases h; rfl)
  · cases r <;> first | (cases h; done) | skip
    cases h
    rfl
theorem slc_ok (b : Bnd B S) {lo hi : Option Int} (r : Rd B S d x) (h : slcU x lo hi = .ok u) : OkF B S (slcD d lo hi S) u := by
  unfold slcU at h
  split at h
  · rename_i xs hx
    obtain ⟨l, ds, rfl, g1, g2⟩ := sq_rd r hx
    cases h
    show OkF B S ((getL l >>= fun xs => NL.alloc (.lst (NL.cutD xs lo hi))) S) _
    rw [bind_eq, g1]
    show OkF B S (NL.alloc (.lst (NL.cutD ds lo hi)) S) _
    refine .new b ?_
    unfold NL.cutD cutU
    rw [g2.length]
    exact (g2.drop _).take _
  · cases h
theorem ints_rd : ∀ {ds : List D} {us : List U}, Rds B S ds us → intsD ds = intsU us
  | _, _, .nil => rfl
  | _, _, .cons a r => by
    cases a <;> first | rfl | skip
    unfold intsD intsU
    rw [ints_rd r]
theorem all1 {f : D → Bool} {g : U → Bool} (h : ∀ d u, Rd B S d u → f d = g u) : ∀ {ds : List D} {us : List U}, Rds B S ds us → ds.all f = us.all g
  | _, _, .nil => rfl
  | _, _, .cons a r => by rw [List.all_cons, List.all_cons, h _ _ a, all1 h r]
theorem Rds.getD {ds : List D} {us : List U} (r : Rds B S ds us) (i : Nat) : Rd B S (ds.getD i .non) (us.getD i .non) := by
  rw [List.getD_eq_getElem?_getD, List.getD_eq_getElem?_getD]
  cases hu : us[i]? with
  | none =>
    have : ds[i]? = none := by
      rw [List.getElem?_eq_none_iff, r.length]
      exact List.getElem?_eq_none_iff.mp hu
    rw [this]; exact .non
  | some u =>
    obtain ⟨d, h1, h2⟩ := r.get hu
    rw [h1]; exact h2
theorem best_rd {o : Cop} {ds : List D} {us : List U} (r : Rds B S ds us) (h : bestU o us = some u) : ∃ d, bestD o ds = some d ∧ Rd B S d u := by
  unfold bestU at h
  split at h
  · rename_i hc
    have e1 : (ds.all fun x => ds.all fun y => (ordD o 12 x y).isSome) = (us.all fun x => us.all fun y => (ordU o 12 x y).isSome) :=
      all1 (fun d u a => all1 (fun d' u' a' => by rw [ord_rd o 12 _ _ _ _ a a']) r) r
    have e2 : (fun i j => (ordD o 12 (ds.getD i .non) (ds.getD j .non)).getD false) = fun i j => (ordU o 12 (us.getD i .non) (us.getD j .non)).getD false := by
      funext i j
      rw [ord_rd o 12 _ _ _ _ (r.getD i) (r.getD j)]
    obtain ⟨d, h1, h2⟩ := r.get h
    refine ⟨d, ?_, h2⟩
    unfold bestD
    rw [e1, if_pos hc, e2, r.length]
    exact h1
  · cases h
theorem opt_ok {o : Cop} {ds : List D} {us : List U} (r : Rds B S ds us) (h : optU (bestU o us) = .ok u) : Ok1 B S (ofD (bestD o ds) S) u := by
  cases e : bestU o us with
  | none => rw [e] at h; cases h
  | some v =>
    rw [e] at h
    cases h
    obtain ⟨d, h1, h2⟩ := best_rd r e
    refine ⟨d, S, ?_, .refl S, h2⟩
    rw [h1]; rfl
theorem mn2 {o : Cop} {a b : D} : mnD o [a, b] = ofD (bestD o [a, b]) := by cases a <;> rfl
theorem mn3 {o : Cop} {a b c : D} : mnD o [a, b, c] = ofD (bestD o [a, b, c]) := by cases a <;> rfl
theorem mn4 {o : Cop} {a b c d : D} : mnD o [a, b, c, d] = ofD (bestD o [a, b, c, d]) := by cases a <;> rfl
theorem mn_ok {o : Cop} {ds : List D} {us : List U} (r : Rds B S ds us) (h : mnU o us = .ok u) : Ok1 B S (mnD o ds S) u := by
  unfold mnU at h
  split at h
  · rcases r with _ | ⟨a, _ | ⟨_, _⟩⟩
    cases a
    rename_i a
    exact opt_ok a h
  · rcases r with _ | ⟨a, _ | ⟨_, _⟩⟩
    split at h
    · rename_i hx
      obtain ⟨l, ds, rfl, g1, g2⟩ := sq_rd a hx
      show Ok1 B S ((getL l >>= fun xs => ofD (bestD o xs)) S) u
      rw [bind_eq, g1]
      exact opt_ok g2 h
    · cases h
  · have q := r
    rcases r with _ | ⟨a, _ | ⟨b, _ | ⟨_, _⟩⟩⟩
    rw [mn2]
    exact opt_ok q h
  · have q := r
    rcases r with _ | ⟨a, _ | ⟨b, _ | ⟨c, _ | ⟨_, _⟩⟩⟩⟩
    rw [mn3]
    exact opt_ok q h
  · have q := r
    rcases r with _ | ⟨a, _ | ⟨b, _ | ⟨c, _ | ⟨d, _ | ⟨_, _⟩⟩⟩⟩⟩
    rw [mn4]
    exact opt_ok q h
  · cases h
/-- a list told by a builtin is new -/
def newB : Blt → Bool
  | .list => true
  | .sorted => true
  | _ => false
theorem blt_ok (b : Bnd B S) {t : Blt} {ds : List D} {us : List U} (r : Rds B S ds us) (h : bltU t us = .ok u) : Ok1 B S (bltD t ds S) u ∧ (newB t = true → OkF B S (bltD t ds S) u) := by
  have nw : ∀ {z : D} {v : U}, Rd B S z v → (∀ us, v ≠ .lst us) → Ok1 B S (.ok z S) v ∧ (newB t = true → OkF B S (.ok z S) v) := fun hz hv => ⟨(OkF.now hz hv).ok1, fun _ => .now hz hv⟩
  have one : ∀ {v : U} {vs : List D}, Rds B S vs [v] → ∃ d, vs = [d] ∧ Rd B S d v := fun r => by
    rcases r with _ | ⟨a, _ | ⟨_, _⟩⟩
    exact ⟨_, rfl, a⟩
  unfold bltU at h
  split at h
  · obtain ⟨d, rfl, a⟩ := one r
    cases a; cases h; exact nw (.int _) (by intro us z; cases z)
  · obtain ⟨d, rfl, a⟩ := one r
    cases a; cases h; exact nw (.int _) (by intro us z; cases z)
  · obtain ⟨d, rfl, a⟩ := one r
    cases a; cases h; exact nw (.int _) (by intro us z; cases z)
  · obtain ⟨d, rfl, a⟩ := one r
    cases a
    rename_i a
    cases h
    rw [← a.length]
    exact nw (.int _) (by intro us z; cases z)
  · obtain ⟨d, rfl, a⟩ := one r
    split at h
    · rename_i hx
      obtain ⟨l, ds, rfl, g1, g2⟩ := sq_rd a hx
      cases h
      have e2 : bltD .len [.ref l] S = .ok (.int ds.length) S := by
        show (getL l >>= fun xs => (pure (.int xs.length) : M D)) S = _
        rw [bind_eq, g1]; rfl
      rw [e2, ← g2.length]
      exact nw (.int _) (by intro us z; cases z)
    · cases h
  · exact ⟨mn_ok r h, fun z => by cases z⟩
  · exact ⟨mn_ok r h, fun z => by cases z⟩
  · obtain ⟨d, rfl, a⟩ := one r
    cases a
    rename_i a
    cases h
    have q : OkF B S (NL.alloc (.lst _) S) _ := .new b a
    exact ⟨q.ok1, fun _ => q⟩
  · obtain ⟨d, rfl, a⟩ := one r
    split at h
    · rename_i hx
      obtain ⟨l, ds, rfl, g1, g2⟩ := sq_rd a hx
      cases h
      have e2 : bltD .list [.ref l] S = NL.alloc (.lst ds) S := by
        show (getL l >>= fun xs => NL.alloc (.lst xs)) S = _
        rw [bind_eq, g1]; rfl
      rw [e2]
      have q : OkF B S (NL.alloc (.lst _) S) _ := .new b g2
      exact ⟨q.ok1, fun _ => q⟩
    · cases h
  · obtain ⟨d, rfl, a⟩ := one r
    cases a
    rename_i a
    cases h
    exact nw (.tup a) (by intro us z; cases z)
  · obtain ⟨d, rfl, a⟩ := one r
    split at h
    · rename_i hx
      obtain ⟨l, ds, rfl, g1, g2⟩ := sq_rd a hx
      cases h
      have e2 : bltD .tuple [.ref l] S = .ok (.tup ds) S := by
        show (getL l >>= fun xs => (pure (.tup xs) : M D)) S = _
        rw [bind_eq, g1]; rfl
      rw [e2]
      exact nw (.tup g2) (by intro us z; cases z)
    · cases h
  · obtain ⟨d, rfl, a⟩ := one r
    split at h
    · rename_i xs hx
      obtain ⟨l, ds, rfl, g1, g2⟩ := sq_rd a hx
      unfold sortU at h
      split at h
      · rename_i hn
        split at h
        · rename_i ys hs
          cases h
          have ed : ds = xs.map toD := by rw [rds_is g2 hn, toDs_map]
          have e2 : bltD .sorted [.ref l] S = NL.alloc (.lst ys) S := by
            show (getL l >>= fun xs => match sortD xs with | some ys => NL.alloc (.lst ys) | none => die) S = _
            rw [bind_eq, g1]
            show (match sortD ds with | some ys => NL.alloc (.lst ys) | none => die) S = _
            rw [ed, hs]
          rw [e2]
          have hy : ∀ y ∈ ys, ∃ u, noL u = true ∧ y = toD u := fun y hy => by
            obtain ⟨ok, e⟩ := sortD_some hs
            have := (srt_perm (lt := ltD) (xs.map toD)).mem_iff.mp (by rw [← e]; exact hy)
            obtain ⟨u, hu, rfl⟩ := List.mem_map.mp this
            have : ∀ {us : List U}, noLs us = true → ∀ u ∈ us, noL u = true := fun {us} => by
              induction us with
              | nil => intro _ u hu; cases hu
              | cons x us ih =>
                intro h u hu
                unfold noLs at h
                rw [Bool.and_eq_true] at h
                rcases List.mem_cons.mp hu with rfl | hu
                · exact h.1
                · exact ih h.2 u hu
            exact ⟨u, this hn u hu, rfl⟩
          have rr : Rds B S ys (ys.map bkD) := by
            clear e2 hs
            induction ys with
            | nil => exact .nil
            | cons y ys ih =>
              obtain ⟨u, hu, rfl⟩ := hy y List.mem_cons_self
              refine .cons ?_ (ih fun z hz => hy z (List.mem_cons_of_mem _ hz))
              rw [of_to hu]; exact rd_to hu
          have q : OkF B S (NL.alloc (.lst ys) S) _ := .new b rr
          exact ⟨q.ok1, fun _ => q⟩
        · cases h
      · cases h
    · cases h
  · obtain ⟨d, rfl, a⟩ := one r
    split at h
    · rename_i hx
      obtain ⟨l, ds, rfl, g1, g2⟩ := sq_rd a hx
      split at h
      · rename_i ns hn
        cases h
        have e2 : bltD .sum [.ref l] S = .ok (.int ns.sum) S := by
          show (getL l >>= fun xs => match intsD xs with | some ns => (pure (.int ns.sum) : M D) | none => die) S = _
          rw [bind_eq, g1]
          show (match intsD ds with | some ns => (pure (.int ns.sum) : M D) | none => die) S = _
          rw [ints_rd g2, hn]; rfl
        rw [e2]
        exact nw (.int _) (by intro us z; cases z)
      · cases h
    · cases h
  · cases h
theorem isi_ok {T : Ty} (r : Rd B S d x) (h : isiU T x = .ok u) : OkF B S (isiD T d S) u := by
  cases h
  have e : tyD S d = some (tyU x) := by
    cases r <;> first | rfl | skip
    · rename_i h1 h2 h3
      unfold tyD
      dsimp only
      rw [h2]; rfl
    · rename_i h1 h2 h3
      unfold tyD
      dsimp only
      rw [h2]; rfl
  unfold isiD
  rw [e]
  exact .now (.bl _) (by intro us z; cases z)
theorem unp_ok {n : Nat} {us : List U} (r : Rd B S d x) (h : unpU n x = .ok us) : ∃ ds, unpD n d S = .ok ds S ∧ Rds B S ds us := by
  unfold unpU at h
  split at h
  · cases r
    rename_i a
    split at h
    · rename_i hc
      cases h
      refine ⟨_, ?_, a⟩
      have e : unpD n (.tup _) = pure _ := if_pos (show List.length _ = n by rw [a.length]; exact hc)
      rw [e]; rfl
    · cases h
  · split at h
    · rename_i hx
      obtain ⟨l, ds, rfl, g1, g2⟩ := sq_rd r hx
      split at h
      · rename_i hc
        cases h
        refine ⟨ds, ?_, g2⟩
        show (getL l >>= fun xs => if xs.length = n then (pure xs : M (List D)) else die) S = _
        rw [bind_eq, g1]
        show (if ds.length = n then (pure ds : M (List D)) else die) S = _
        rw [if_pos (by rw [g2.length]; exact hc)]; rfl
      · cases h
    · cases h
theorem rng_ok {us : List U} (r : Rd B S d x) (q : Rd B S e y) (h : rngU x y = .ok us) : ∃ ds, rngD d e S = .ok ds S ∧ ∀ B' S', Rds B' S' ds us := by
  unfold rngU at h
  split at h
  · cases r; cases q
    rename_i a b
    split at h
    · rename_i hc
      cases h
      have e : rngD (.int a) (.int b) = pure _ := if_pos hc
      refine ⟨_, by rw [e]; rfl, fun B' S' => ?_⟩
      generalize List.range (b - a).toNat = ks
      induction ks with
      | nil => exact .nil
      | cons k ks ih => exact .cons (.int _) ih
    · cases h
  · cases h
end
end VL

/-! Expressions answer trees. -/
namespace VL
open PySem PySem.Spec PyProof.Rows L2 NL
/-- a name: whether its list is its own, its value -/
abbrev VEnv := List (Option (Bool × U))
def getV (en : VEnv) (i : Nat) : VR U := match en[i]? with
  | some (some p) => .ok p.2
  | _ => .stuck
def wipeV (en : VEnv) : List Nat → VEnv
  | [] => en
  | v :: vs => (wipeV en vs).set v none
def setAllV (en : VEnv) : List Nat → List U → VEnv
  | i :: is, u :: us => setAllV (en.set i (some (false, u))) is us
  | _, _ => en
def bindV : Tg → U → VEnv → VR VEnv
  | .nm i, u, en => .ok (en.set i (some (false, u)))
  | .tp is, u, en => (unpU is.length u).bind fun us => .ok (setAllV en is us)
def compV (bnd : U → VR VEnv) (c : VEnv → VR Bool) (e : VEnv → VR U) : List U → VR (List U)
  | [] => .ok []
  | x :: xs => (bnd x).bind fun en => (c en).bind fun t => if t = true then (e en).bind fun u => (compV bnd c e xs).bind fun r => .ok (u :: r) else compV bnd c e xs
def noXV {α : Type} (r : VR α) : VR α := match r with
  | .ok a => .ok a
  | _ => .stuck
mutual
noncomputable def evV (C : Nat → List U → VR U) : E → VEnv → VR U
  | .var i, en => getV en i
  | .con .non, _ => .ok .non
  | .con (.bl b), _ => .ok (.bl b)
  | .con (.int i), _ => .ok (.int i)
  | .con (.str x), _ => .ok (.str x)
  | .con _, _ => .stuck
  | .bin o a b, en => (evV C a en).bind fun x => (evV C b en).bind fun y => binU o x y
  | .neg a, en => (evV C a en).bind negU
  | .not a, en => (evV C a en).bind fun x => (truU x).bind fun t => .ok (.bl (!t))
  | .cmp o a b, en => (evV C a en).bind fun x => (evV C b en).bind fun y => cmpU o x y
  | .chn o o' a b c, en => (evV C a en).bind fun x => (evV C b en).bind fun y => (cmpU o x y).bind fun z => (truU z).bind fun t => if t = true then (evV C c en).bind fun z => cmpU o' y z else .ok (.bl false)
  | .and a b, en => (evV C a en).bind fun x => (truU x).bind fun t => if t = true then evV C b en else .ok (.bl false)
  | .or a b, en => (evV C a en).bind fun x => (truU x).bind fun t => if t = true then .ok (.bl true) else evV C b en
  | .ite c a b, en => (evV C c en).bind fun x => (truU x).bind fun t => if t = true then evV C a en else evV C b en
  | .tup es, en => (evVs C es en).bind fun xs => if xs.length ≤ sizeLine then .ok (.tup xs) else .stuck
  | .lst es, en => (evVs C es en).bind fun xs => if xs.length ≤ sizeLine then .ok (.lst xs) else .stuck
  | .idx a i, en => (evV C a en).bind fun x => (evV C i en).bind fun y => ixU x y
  | .slc p q a lo hi, en => (evV C a en).bind fun x => (evV C lo en).bind fun y => (bndU p y).bind fun y' => (evV C hi en).bind fun z => (bndU q z).bind fun z' => slcU x y' z'
  | .call f es, en => (evVs C es en).bind fun xs => C f xs
  | .blt b es, en => (evVs C es en).bind fun xs => bltU b xs
  | .isi a T, en => (evV C a en).bind fun x => isiU T x
  | .comp own tg it c e, en => (evVt C it en).bind fun p => if p.1.length ≤ sizeLine then
      noXV ((compV (fun d => bindV tg d (wipeV en own)) (fun en' => (evV C c en').bind truU) (fun en' => evV C e en') p.1).bind fun us => .ok (.lst us)) else .stuck
noncomputable def evVs (C : Nat → List U → VR U) : Es → VEnv → VR (List U)
  | .nil, _ => .ok []
  | .cons e es, en => (evV C e en).bind fun x => (evVs C es en).bind fun xs => .ok (x :: xs)
noncomputable def evVt (C : Nat → List U → VR U) : NL.It → VEnv → VR (List U × Bool)
  | .val e, en => (evV C e en).bind iterU
  | .rng1 b, en => (evV C b en).bind fun y => (rngU (.int 0) y).bind fun xs => .ok (xs, false)
  | .rng2 a b, en => (evV C a en).bind fun x => (evV C b en).bind fun y => (rngU x y).bind fun xs => .ok (xs, false)
end
mutual
def fvE : E → List Nat
  | .var i => [i]
  | .con _ => []
  | .bin _ a b => fvE a ++ fvE b
  | .neg a => fvE a
  | .not a => fvE a
  | .cmp _ a b => fvE a ++ fvE b
  | .chn _ _ a b c => fvE a ++ (fvE b ++ fvE c)
  | .and a b => fvE a ++ fvE b
  | .or a b => fvE a ++ fvE b
  | .ite c a b => fvE c ++ (fvE a ++ fvE b)
  | .tup es => fvEs es
  | .lst es => fvEs es
  | .idx a i => fvE a ++ fvE i
  | .slc _ _ a lo hi => fvE a ++ (fvE lo ++ fvE hi)
  | .call _ es => fvEs es
  | .blt _ es => fvEs es
  | .isi a _ => fvE a
  | .comp _ _ it c e => fvI it ++ (fvE c ++ fvE e)
def fvEs : Es → List Nat
  | .nil => []
  | .cons e es => fvE e ++ fvEs es
def fvI : NL.It → List Nat
  | .val e => fvE e
  | .rng1 b => fvE b
  | .rng2 a b => fvE a ++ fvE b
end
def freshE (fr : Nat → Bool) : E → Bool
  | .lst _ => true
  | .comp _ _ _ _ _ => true
  | .slc _ _ _ _ _ => true
  | .blt b _ => newB b
  | .bin _ _ _ => true
  | .call f _ => fr f
  | .ite _ a b => freshE fr a && freshE fr b
  | _ => false
/-- an answer is read so; where fl, a list is new -/
def OkB (fl : Bool) (B : Nat → Prop) (S : Store) (r : R D) (u : U) : Prop := ∃ d S1, r = .ok d S1 ∧ Gw S S1 ∧ Rd B S1 d u ∧ (fl = true → (∃ us, u = .lst us) → FrD B S.length S1 d u)
theorem OkF.b {fl : Bool} {B : Nat → Prop} {S : Store} {r : R D} {u : U} (h : OkF B S r u) : OkB fl B S r u := by
  obtain ⟨d, S1, h1, h2, h3, h4⟩ := h
  exact ⟨d, S1, h1, h2, h3, fun _ => h4⟩
theorem Ok1.b {B : Nat → Prop} {S : Store} {r : R D} {u : U} (h : Ok1 B S r u) : OkB false B S r u := by
  obtain ⟨d, S1, h1, h2, h3⟩ := h
  exact ⟨d, S1, h1, h2, h3, fun e => by cases e⟩
theorem OkB.ok1 {fl : Bool} {B : Nat → Prop} {S : Store} {r : R D} {u : U} (h : OkB fl B S r u) : Ok1 B S r u := by
  obtain ⟨d, S1, h1, h2, h3, _⟩ := h
  exact ⟨d, S1, h1, h2, h3⟩
theorem OkB.gw {fl : Bool} {B : Nat → Prop} {S S1 : Store} {r : R D} {u : U} (g : Gw S S1) (h : OkB fl B S1 r u) : OkB fl B S r u := by
  obtain ⟨d, S2, h1, h2, h3, h4⟩ := h
  exact ⟨d, S2, h1, g.trans h2, h3, fun f e => (h4 f e).le g.len⟩
structure EnvR (is : List Nat) (B : Nat → Prop) (S : Store) (ven : VEnv) (en : NL.Env) : Prop where
  len : ven.length = en.length
  get : ∀ i ∈ is, ∀ w u, ven[i]? = some (some (w, u)) → ∃ d, en[i]? = some (some d) ∧ Rd B S d u
def CallOk (fr : Nat → Bool) (C : Nat → List D → M D) (CV : Nat → List U → VR U) : Prop :=
  ∀ f us u, CV f us = .ok u → ∀ B S ds, Bnd B S → Rds B S ds us → OkB (fr f) B S (C f ds S) u
section
variable {B B' : Nat → Prop} {S S' : Store} {ven : VEnv} {en : NL.Env} {is js : List Nat}
theorem EnvR.sub (h : EnvR is B S ven en) (k : ∀ i ∈ js, i ∈ is) : EnvR js B S ven en := ⟨h.len, fun i hi => h.get i (k i hi)⟩
theorem EnvR.l (h : EnvR (is ++ js) B S ven en) : EnvR is B S ven en := h.sub fun i hi => List.mem_append_left _ hi
theorem EnvR.r (h : EnvR (is ++ js) B S ven en) : EnvR js B S ven en := h.sub fun i hi => List.mem_append_right _ hi
theorem EnvR.mono (h : EnvR is B S ven en) (g : ∀ l o, ¬ B l → S[l]? = some o → ¬ B' l ∧ S'[l]? = some o) : EnvR is B' S' ven en := ⟨h.len, fun i hi w u e => by
  obtain ⟨d, h1, h2⟩ := h.get i hi w u e
  exact ⟨d, h1, h2.mono g⟩⟩
theorem EnvR.gw (h : EnvR is B S ven en) (g : Gw S S') : EnvR is B S' ven en := h.mono fun l o h1 h2 => ⟨h1, g.get h2⟩
theorem EnvR.set (h : EnvR is B S ven en) {d : D} {u : U} {w : Bool} (r : Rd B S d u) (i : Nat) : EnvR is B S (ven.set i (some (w, u))) (en.set i (some d)) := ⟨by simp [h.len], fun j hj w' u' e => by
  by_cases hij : i = j
  · subst hij
    by_cases hl : i < ven.length
    · rw [List.getElem?_set_self hl] at e
      cases e
      exact ⟨d, List.getElem?_set_self (by rw [← h.len]; exact hl), r⟩
    · rw [List.getElem?_eq_none (by simpa using hl)] at e; cases e
  · rw [List.getElem?_set_ne hij] at e ⊢
    exact h.get j hj w' u' e⟩
theorem EnvR.wipe (h : EnvR is B S ven en) : ∀ vs : List Nat, EnvR is B S (wipeV ven vs) (NL.wipeD en vs)
  | [] => h
  | v :: vs => by
    have ih := EnvR.wipe h vs
    refine ⟨by show (List.set _ _ _).length = (List.set _ _ _).length; rw [List.length_set, List.length_set]; exact ih.len, fun j hj w u e => ?_⟩
    show ∃ d, (List.set _ _ _)[j]? = _ ∧ _
    have e : ((wipeV ven vs).set v none)[j]? = some (some (w, u)) := e
    by_cases hij : v = j
    · subst hij
      by_cases hl : v < (wipeV ven vs).length
      · rw [List.getElem?_set_self hl] at e; cases e
      · rw [List.getElem?_eq_none (by simpa using hl)] at e; cases e
    · rw [List.getElem?_set_ne hij] at e ⊢
      exact ih.get j hj w u e
theorem EnvR.setAll : ∀ {ks : List Nat} {ds : List D} {us : List U} {ven : VEnv} {en : NL.Env}, EnvR is B S ven en → Rds B S ds us → EnvR is B S (setAllV ven ks us) (NL.setAll en ks ds)
  | [], _, _, _, _, h, _ => by unfold setAllV NL.setAll; exact h
  | k :: ks, _, _, _, _, h, .nil => by unfold setAllV NL.setAll; exact h
  | k :: ks, _, _, _, _, h, .cons a r => by
    unfold setAllV NL.setAll
    exact EnvR.setAll (h.set a k) r
theorem bind_ok {tg : Tg} {d : D} {u : U} {ven' : VEnv} (h : EnvR is B S ven en) (r : Rd B S d u) (hb : bindV tg u ven = .ok ven') : ∃ en', NL.bindT tg d en S = .ok en' S ∧ EnvR is B S ven' en' := by
  cases tg with
  | nm i => cases hb; exact ⟨_, rfl, h.set r i⟩
  | tp ks =>
    obtain ⟨us, h1, h2⟩ := VR.bind_ok hb
    cases h2
    obtain ⟨ds, h3, h4⟩ := unp_ok r h1
    refine ⟨NL.setAll en ks ds, ?_, h.setAll h4⟩
    show (unpD ks.length d >>= fun ds => (pure (NL.setAll en ks ds) : M NL.Env)) S = _
    rw [bind_eq, h3]; rfl
theorem Gw_of {S S' : Store} (h : ∀ k, k < S.length → S'[k]? = S[k]?) (hl : S.length ≤ S'.length) : Gw S S' := by
  refine ⟨S'.drop S.length, ?_⟩
  apply List.ext_getElem?
  intro k
  by_cases hk : k < S.length
  · rw [h k hk, List.getElem?_append_left hk]
  · rw [List.getElem?_append_right (by omega), List.getElem?_drop]
    congr 1
    omega
/-- all but l stays -/
structure Ext (l : Nat) (S S' : Store) : Prop where
  len : S.length ≤ S'.length
  get : ∀ k o, k ≠ l → S[k]? = some o → S'[k]? = some o
theorem Ext.refl {l : Nat} : Ext l S S := ⟨Nat.le_refl _, fun _ _ _ h => h⟩
theorem Ext.trans {l : Nat} {S1 S2 S3 : Store} (a : Ext l S1 S2) (b : Ext l S2 S3) : Ext l S1 S3 := ⟨Nat.le_trans a.len b.len, fun k o n h => b.get k o n (a.get k o n h)⟩
theorem Ext.gw {l : Nat} (g : Gw S S') : Ext l S S' := ⟨g.len, fun _ _ _ h => g.get h⟩
theorem Ext.set {l : Nat} {o : Ob} : Ext l S (S.set l o) := ⟨by simp, fun k o n h => by rw [List.getElem?_set_ne (fun e => n e.symm)]; exact h⟩
theorem Ext.mono {l : Nat} (g : Ext l S S') (hB : B l) : ∀ k o, ¬ B k → S[k]? = some o → ¬ B k ∧ S'[k]? = some o := fun k o h1 h2 => ⟨h1, g.get k o (fun e => h1 (by rw [e]; exact hB)) h2⟩
end
theorem at_sq {B : Nat → Prop} {S : Store} {d : D} {u : U} {us : List U} (r : Rd B S d u) (h : sqU u = some us) : ∃ l o, d = .ref l ∧ S[l]? = some o ∧ ¬ B l ∧ Rds B S (items o) us := by
  cases r with
  | lst n g r => cases h; exact ⟨_, _, rfl, g, n, r⟩
  | frz n g r => cases h; exact ⟨_, _, rfl, g, n, r⟩
  | _ => cases h
def CkOkV (B : Nat → Prop) : Option (Nat × Ob) → Store → Prop
  | none, _ => True
  | some (l, o), S => S[l]? = some o ∧ ¬ B l
theorem ck_run {B : Nat → Prop} {p : Option (Nat × Ob)} {S : Store} (h : CkOkV B p S) : ckD p S = .ok () S := by
  cases p with
  | none => rfl
  | some q =>
    obtain ⟨l, o⟩ := q
    show (open Classical in if S[l]? = some o then (R.ok () S : R Unit) else .stuck) = _
    rw [if_pos h.1]
theorem comp_ok {B : Nat → Prop} {l : Nat} {ck : Option (Nat × Ob)} {bnd : D → M NL.Env} {bndV : U → VR VEnv} {c : NL.Env → M Bool} {cV : VEnv → VR Bool} {e : NL.Env → M D} {eV : VEnv → VR U} {S0 : Store} {is : List Nat}
    (hB : B l)
    (hb : ∀ S d u ven', Ext l S0 S → Bnd B S → Rd B S d u → bndV u = .ok ven' → ∃ en', bnd d S = .ok en' S ∧ EnvR is B S ven' en')
    (hc : ∀ S ven en t, Bnd B S → EnvR is B S ven en → cV ven = .ok t → ∃ S1, c en S = .ok t S1 ∧ Gw S S1)
    (he : ∀ S ven en u, Bnd B S → EnvR is B S ven en → eV ven = .ok u → Ok1 B S (e en S) u) :
    ∀ {ds : List D} {us rs : List U} {S : Store} {acc : List D} {ua : List U}, Ext l S0 S → Bnd B S → CkOkV B ck S → Rds B S ds us → S[l]? = some (.lst acc) → Rds B S acc ua → acc.length + ds.length ≤ sizeLine → compV bndV cV eV us = .ok rs →
    ∃ S1 acc1, cmpL (ckD ck) bnd c e l ds S = .ok () S1 ∧ Ext l S0 S1 ∧ S1[l]? = some (.lst acc1) ∧ Rds B S1 acc1 (ua ++ rs)
  | _, _, rs, S, acc, ua, x0, b, k, .nil, h1, h2, _, h => by
    cases h
    refine ⟨S, acc, ?_, x0, h1, by rw [List.append_nil]; exact h2⟩
    show ckD ck S = _
    exact ck_run k
  | d :: ds, u :: us, rs, S, acc, ua, x0, b, k, .cons a r, h1, h2, hl, h => by
    unfold compV at h
    obtain ⟨ven1, g1, h⟩ := VR.bind_ok h
    obtain ⟨t, g2, h⟩ := VR.bind_ok h
    obtain ⟨en1, q1, er⟩ := hb S d u ven1 x0 b a g1
    obtain ⟨S1, q2, w2⟩ := hc S ven1 en1 t b er g2
    have step : cmpL (ckD ck) bnd c e l (d :: ds) S = (if t = true then e en1 >>= fun d => pushD l d >>= fun _ => cmpL (ckD ck) bnd c e l ds else cmpL (ckD ck) bnd c e l ds) S1 := by
      show (ckD ck >>= fun _ => bnd d >>= fun en => c en >>= fun t => if t = true then e en >>= fun d => pushD l d >>= fun _ => cmpL (ckD ck) bnd c e l ds else cmpL (ckD ck) bnd c e l ds) S = _
      rw [bind_eq, ck_run k]
      show (bnd d >>= fun en => c en >>= fun t => if t = true then e en >>= fun d => pushD l d >>= fun _ => cmpL (ckD ck) bnd c e l ds else cmpL (ckD ck) bnd c e l ds) S = _
      rw [bind_eq, q1]
      show (c en1 >>= fun t => if t = true then e en1 >>= fun d => pushD l d >>= fun _ => cmpL (ckD ck) bnd c e l ds else cmpL (ckD ck) bnd c e l ds) S = _
      rw [bind_eq, q2]
      rfl
    rw [step]
    have ckl : ∀ {S S' : Store}, Ext l S S' → CkOkV B ck S → CkOkV B ck S' := fun {S S'} g h => by
      cases ck with
      | none => trivial
      | some q => exact ⟨g.get _ _ (fun e => h.2 (by rw [e]; exact hB)) h.1, h.2⟩
    have ll : l < S.length := lt_of_get h1
    by_cases ht : t = true
    · rw [if_pos ht] at h ⊢
      obtain ⟨v, g3, h⟩ := VR.bind_ok h
      obtain ⟨rs', g4, h⟩ := VR.bind_ok h
      cases h
      obtain ⟨dv, S2, q3, w3, rv⟩ := he S1 ven1 en1 v (b.gw w2) (er.gw w2) g3
      have w := w2.trans w3
      have e2 : S2[l]? = some (.lst acc) := w.get h1
      have hlen : acc.length < sizeLine := by rw [List.length_cons] at hl; omega
      have push : pushD l dv S2 = .ok () (S2.set l (.lst (acc ++ [dv]))) := by
        unfold pushD
        rw [e2]
        exact if_pos hlen
      have ll2 : l < S2.length := lt_of_get e2
      have x1 : Ext l S (S2.set l (.lst (acc ++ [dv]))) := (Ext.gw w).trans .set
      obtain ⟨S3, acc1, q5, x2, q6, q7⟩ := comp_ok hB hb hc he (ds := ds) (us := us) (rs := rs') (S := S2.set l (.lst (acc ++ [dv]))) (acc := acc ++ [dv]) (ua := ua ++ [v]) (x0.trans x1)
        (fun k hk => by rw [List.length_set]; exact Nat.lt_of_lt_of_le (b k hk) w.len) (ckl x1 k) (r.mono (x1.mono hB)) (List.getElem?_set_self ll2)
        ((h2.mono (x1.mono hB)).append (.cons (rv.mono (Ext.set.mono hB)) .nil)) (by rw [List.length_append, List.length_singleton]; rw [List.length_cons] at hl; omega) g4
      refine ⟨S3, acc1, ?_, x2, q6, by rw [List.append_assoc] at q7; exact q7⟩
      rw [bind_eq, q3]
      show (pushD l dv >>= fun _ => cmpL (ckD ck) bnd c e l ds) S2 = _
      rw [bind_eq, push]
      exact q5
    · rw [if_neg ht] at h ⊢
      exact comp_ok hB hb hc he (x0.trans (Ext.gw w2)) (b.gw w2) (ckl (Ext.gw w2) k) (r.gw w2) (w2.get h1) (h2.gw w2) (by rw [List.length_cons] at hl; omega) h
theorem Ext.rd {B : Nat → Prop} {l : Nat} {S S' : Store} (g : Ext l S S') (hB : B l) {d : D} {u : U} (r : Rd B S d u) : Rd B S' d u := r.mono (g.mono hB)
section
variable {fr : Nat → Bool} {C : Nat → List D → M D} {CV : Nat → List U → VR U}
mutual
theorem ev_ok (hC : CallOk fr C CV) : ∀ (e : E) {B : Nat → Prop} {S : Store} {ven : VEnv} {en : NL.Env} {u : U}, Bnd B S → EnvR (fvE e) B S ven en → evV CV e ven = .ok u → OkB (freshE fr e) B S (evE C e en S) u
  | .var i, B, S, ven, en, u, b, r, h => by
    unfold evV getV at h
    split at h
    · rename_i p hp
      cases h
      obtain ⟨d, h1, h2⟩ := r.get i (by unfold fvE; exact List.mem_singleton.mpr rfl) p.1 p.2 hp
      refine ⟨d, S, ?_, .refl S, h2, fun e => by cases e⟩
      unfold evE
      rw [h1]; rfl
    · cases h
  | .con c, B, S, ven, en, u, b, r, h => by
    cases c <;> unfold evV at h <;> first | (cases h; done) | skip
    · cases h; exact ⟨.non, S, by unfold evE; rfl, .refl S, .non, fun e => by cases e⟩
    · cases h; exact ⟨.bl _, S, by unfold evE; rfl, .refl S, .bl _, fun e => by cases e⟩
    · cases h; exact ⟨.int _, S, by unfold evE; rfl, .refl S, .int _, fun e => by cases e⟩
    · cases h; exact ⟨.str _, S, by unfold evE; rfl, .refl S, .str _, fun e => by cases e⟩
  | .bin o a b', B, S, ven, en, u, b, r, h => by
    unfold evV at h
    obtain ⟨x, h1, h⟩ := VR.bind_ok h
    obtain ⟨y, h2, h⟩ := VR.bind_ok h
    unfold fvE at r
    obtain ⟨d1, S1, q1, w1, r1, _⟩ := ev_ok hC a b r.l h1
    obtain ⟨d2, S2, q2, w2, r2, _⟩ := ev_ok hC b' (b.gw w1) (r.r.gw w1) h2
    unfold evE
    rw [bind_eq, q1]
    show OkB _ B S ((evE C b' en >>= fun y => binD o d1 y) S1) u
    rw [bind_eq, q2]
    exact .gw (w1.trans w2) (bin_ok ((b.gw w1).gw w2) (r1.gw w2) r2 h).b
  | .neg a, B, S, ven, en, u, b, r, h => by
    unfold evV at h
    obtain ⟨x, h1, h⟩ := VR.bind_ok h
    unfold fvE at r
    obtain ⟨d1, S1, q1, w1, r1, _⟩ := ev_ok hC a b r h1
    unfold evE
    rw [bind_eq, q1]
    exact .gw w1 (neg_ok r1 h).b
  | .not a, B, S, ven, en, u, b, r, h => by
    unfold evV at h
    obtain ⟨x, h1, h⟩ := VR.bind_ok h
    obtain ⟨t, h2, h⟩ := VR.bind_ok h
    cases h
    unfold fvE at r
    obtain ⟨d1, S1, q1, w1, r1, _⟩ := ev_ok hC a b r h1
    unfold evE
    rw [bind_eq, bind_eq, q1]
    show OkB _ B S (((truD d1) S1).bind fun t => (pure (.bl (!t)) : M D)) _
    rw [tru_ok r1 h2]
    exact ⟨.bl (!t), S1, rfl, w1, .bl _, fun e => by cases e⟩
  | .cmp o a b', B, S, ven, en, u, b, r, h => by
    unfold evV at h
    obtain ⟨x, h1, h⟩ := VR.bind_ok h
    obtain ⟨y, h2, h⟩ := VR.bind_ok h
    unfold fvE at r
    obtain ⟨d1, S1, q1, w1, r1, _⟩ := ev_ok hC a b r.l h1
    obtain ⟨d2, S2, q2, w2, r2, _⟩ := ev_ok hC b' (b.gw w1) (r.r.gw w1) h2
    unfold evE
    rw [bind_eq, q1]
    show OkB _ B S ((evE C b' en >>= fun y => cmpD o d1 y) S1) u
    rw [bind_eq, q2]
    exact .gw (w1.trans w2) (cmp_ok (r1.gw w2) r2 h).b
  | .chn o o' a b' c, B, S, ven, en, u, b, r, h => by
    unfold evV at h
    obtain ⟨x, h1, h⟩ := VR.bind_ok h
    obtain ⟨y, h2, h⟩ := VR.bind_ok h
    obtain ⟨z, h3, h⟩ := VR.bind_ok h
    obtain ⟨t, h4, h⟩ := VR.bind_ok h
    unfold fvE at r
    obtain ⟨d1, S1, q1, w1, r1, _⟩ := ev_ok hC a b r.l h1
    obtain ⟨d2, S2, q2, w2, r2, _⟩ := ev_ok hC b' (b.gw w1) (r.r.l.gw w1) h2
    obtain ⟨d3, S3, q3, w3, r3, _⟩ := cmp_ok (r1.gw w2) r2 h3
    unfold evE
    rw [bind_eq, q1]
    show OkB _ B S ((evE C b' en >>= fun y => cmpD o d1 y >>= truD >>= fun t => if t = true then evE C c en >>= fun z => cmpD o' y z else (pure (.bl false) : M D)) S1) u
    rw [bind_eq, q2]
    show OkB _ B S ((cmpD o d1 d2 >>= truD >>= fun t => if t = true then evE C c en >>= fun z => cmpD o' d2 z else (pure (.bl false) : M D)) S2) u
    rw [bind_eq, bind_eq, q3]
    show OkB _ B S ((truD d3 S3).bind fun t => if t = true then evE C c en >>= fun z => cmpD o' d2 z else (pure (.bl false) : M D)) u
    rw [tru_ok r3 h4]
    show OkB _ B S ((if t = true then evE C c en >>= fun z => cmpD o' d2 z else (pure (.bl false) : M D)) S3) u
    by_cases ht : t = true
    · rw [if_pos ht] at h ⊢
      obtain ⟨v, h5, h⟩ := VR.bind_ok h
      obtain ⟨d4, S4, q4, w4, r4, _⟩ := ev_ok hC c (((b.gw w1).gw w2).gw w3) (((r.r.r.gw w1).gw w2).gw w3) h5
      rw [bind_eq, q4]
      exact .gw (((w1.trans w2).trans w3).trans w4) (cmp_ok ((r2.gw w3).gw w4) r4 h).b
    · rw [if_neg ht] at h ⊢
      cases h
      exact ⟨.bl false, S3, rfl, (w1.trans w2).trans w3, .bl _, fun e => by cases e⟩
  | .and a b', B, S, ven, en, u, b, r, h => by
    unfold evV at h
    obtain ⟨x, h1, h⟩ := VR.bind_ok h
    obtain ⟨t, h2, h⟩ := VR.bind_ok h
    unfold fvE at r
    obtain ⟨d1, S1, q1, w1, r1, _⟩ := ev_ok hC a b r.l h1
    unfold evE
    rw [bind_eq, bind_eq, q1]
    show OkB _ B S ((truD d1 S1).bind fun t => if t = true then evE C b' en else (pure (.bl false) : M D)) u
    rw [tru_ok r1 h2]
    show OkB _ B S ((if t = true then evE C b' en else (pure (.bl false) : M D)) S1) u
    by_cases ht : t = true
    · rw [if_pos ht] at h ⊢
      exact .gw w1 (ev_ok hC b' (b.gw w1) (r.r.gw w1) h).ok1.b
    · rw [if_neg ht] at h ⊢
      cases h
      exact ⟨.bl false, S1, rfl, w1, .bl _, fun e => by cases e⟩
  | .or a b', B, S, ven, en, u, b, r, h => by
    unfold evV at h
    obtain ⟨x, h1, h⟩ := VR.bind_ok h
    obtain ⟨t, h2, h⟩ := VR.bind_ok h
    unfold fvE at r
    obtain ⟨d1, S1, q1, w1, r1, _⟩ := ev_ok hC a b r.l h1
    unfold evE
    rw [bind_eq, bind_eq, q1]
    show OkB _ B S ((truD d1 S1).bind fun t => if t = true then (pure (.bl true) : M D) else evE C b' en) u
    rw [tru_ok r1 h2]
    show OkB _ B S ((if t = true then (pure (.bl true) : M D) else evE C b' en) S1) u
    by_cases ht : t = true
    · rw [if_pos ht] at h ⊢
      cases h
      exact ⟨.bl true, S1, rfl, w1, .bl _, fun e => by cases e⟩
    · rw [if_neg ht] at h ⊢
      exact .gw w1 (ev_ok hC b' (b.gw w1) (r.r.gw w1) h).ok1.b
  | .ite c a b', B, S, ven, en, u, b, r, h => by
    unfold evV at h
    obtain ⟨x, h1, h⟩ := VR.bind_ok h
    obtain ⟨t, h2, h⟩ := VR.bind_ok h
    unfold fvE at r
    obtain ⟨d1, S1, q1, w1, r1, _⟩ := ev_ok hC c b r.l h1
    unfold evE
    rw [bind_eq, bind_eq, q1]
    show OkB _ B S ((truD d1 S1).bind fun t => if t = true then evE C a en else evE C b' en) u
    rw [tru_ok r1 h2]
    show OkB _ B S ((if t = true then evE C a en else evE C b' en) S1) u
    have wk : ∀ {f f' : Bool} {r : R D}, (f' = true → f = true) → OkB f B S r u → OkB f' B S r u := fun k ⟨d, S1, h1, h2, h3, h4⟩ => ⟨d, S1, h1, h2, h3, fun z => h4 (k z)⟩
    by_cases ht : t = true
    · rw [if_pos ht] at h ⊢
      refine wk (fun z => ?_) (.gw w1 (ev_ok hC a (b.gw w1) (r.r.l.gw w1) h))
      unfold freshE at z
      rw [Bool.and_eq_true] at z
      exact z.1
    · rw [if_neg ht] at h ⊢
      refine wk (fun z => ?_) (.gw w1 (ev_ok hC b' (b.gw w1) (r.r.r.gw w1) h))
      unfold freshE at z
      rw [Bool.and_eq_true] at z
      exact z.2
  | .tup es, B, S, ven, en, u, b, r, h => by
    unfold evV at h
    obtain ⟨us, h1, h⟩ := VR.bind_ok h
    unfold fvE at r
    obtain ⟨ds, S1, q1, w1, r1⟩ := evs_ok hC es b r h1
    split at h
    · rename_i hc
      cases h
      unfold evE
      rw [bind_eq, q1]
      show OkB _ B S ((if ds.length ≤ sizeLine then (pure (.tup ds) : M D) else die) S1) _
      rw [if_pos (by rw [r1.length]; exact hc)]
      exact ⟨.tup ds, S1, rfl, w1, .tup r1, fun e => by cases e⟩
    · cases h
  | .lst es, B, S, ven, en, u, b, r, h => by
    unfold evV at h
    obtain ⟨us, h1, h⟩ := VR.bind_ok h
    unfold fvE at r
    obtain ⟨ds, S1, q1, w1, r1⟩ := evs_ok hC es b r h1
    split at h
    · rename_i hc
      cases h
      unfold evE
      rw [bind_eq, q1]
      show OkB _ B S ((if ds.length ≤ sizeLine then NL.alloc (.lst ds) else die) S1) _
      rw [if_pos (by rw [r1.length]; exact hc)]
      exact .gw w1 (OkF.new (b.gw w1) r1).b
    · cases h
  | .idx a i, B, S, ven, en, u, b, r, h => by
    unfold evV at h
    obtain ⟨x, h1, h⟩ := VR.bind_ok h
    obtain ⟨y, h2, h⟩ := VR.bind_ok h
    unfold fvE at r
    obtain ⟨d1, S1, q1, w1, r1, _⟩ := ev_ok hC a b r.l h1
    obtain ⟨d2, S2, q2, w2, r2, _⟩ := ev_ok hC i (b.gw w1) (r.r.gw w1) h2
    unfold evE
    rw [bind_eq, q1]
    show OkB _ B S ((evE C i en >>= fun y => ixD d1 y) S1) u
    rw [bind_eq, q2]
    exact .gw (w1.trans w2) (ix_ok (r1.gw w2) r2 h).b
  | .slc p q a lo hi, B, S, ven, en, u, b, r, h => by
    unfold evV at h
    obtain ⟨x, h1, h⟩ := VR.bind_ok h
    obtain ⟨y, h2, h⟩ := VR.bind_ok h
    obtain ⟨y', h3, h⟩ := VR.bind_ok h
    obtain ⟨z, h4, h⟩ := VR.bind_ok h
    obtain ⟨z', h5, h⟩ := VR.bind_ok h
    unfold fvE at r
    obtain ⟨d1, S1, q1, w1, r1, _⟩ := ev_ok hC a b r.l h1
    obtain ⟨d2, S2, q2, w2, r2, _⟩ := ev_ok hC lo (b.gw w1) (r.r.l.gw w1) h2
    obtain ⟨d3, S3, q3, w3, r3, _⟩ := ev_ok hC hi ((b.gw w1).gw w2) ((r.r.r.gw w1).gw w2) h4
    unfold evE
    rw [bind_eq, q1]
    show OkB _ B S ((evE C lo en >>= bndM p >>= fun y => evE C hi en >>= bndM q >>= fun z => slcD d1 y z) S1) u
    rw [bind_eq, bind_eq, q2]
    show OkB _ B S ((bndM p d2 S2).bind fun y => evE C hi en >>= bndM q >>= fun z => slcD d1 y z) u
    rw [bnd_ok r2 h3]
    show OkB _ B S ((evE C hi en >>= bndM q >>= fun z => slcD d1 y' z) S2) u
    rw [bind_eq, bind_eq, q3]
    show OkB _ B S ((bndM q d3 S3).bind fun z => slcD d1 y' z) u
    rw [bnd_ok r3 h5]
    exact .gw ((w1.trans w2).trans w3) (slc_ok (((b.gw w1).gw w2).gw w3) ((r1.gw w2).gw w3) h).b
  | .call f es, B, S, ven, en, u, b, r, h => by
    unfold evV at h
    obtain ⟨us, h1, h⟩ := VR.bind_ok h
    unfold fvE at r
    obtain ⟨ds, S1, q1, w1, r1⟩ := evs_ok hC es b r h1
    unfold evE
    rw [bind_eq, q1]
    exact .gw w1 (hC f us u h B S1 ds (b.gw w1) r1)
  | .blt t es, B, S, ven, en, u, b, r, h => by
    unfold evV at h
    obtain ⟨us, h1, h⟩ := VR.bind_ok h
    unfold fvE at r
    obtain ⟨ds, S1, q1, w1, r1⟩ := evs_ok hC es b r h1
    unfold evE
    rw [bind_eq, q1]
    obtain ⟨k1, k2⟩ := blt_ok (b.gw w1) r1 h
    refine .gw w1 ?_
    cases hn : newB t with
    | true => exact (k2 hn).b
    | false =>
      have : freshE fr (.blt t es) = false := by unfold freshE; exact hn
      rw [this]
      exact k1.b
  | .isi a T, B, S, ven, en, u, b, r, h => by
    unfold evV at h
    obtain ⟨x, h1, h⟩ := VR.bind_ok h
    unfold fvE at r
    obtain ⟨d1, S1, q1, w1, r1, _⟩ := ev_ok hC a b r h1
    unfold evE
    rw [bind_eq, q1]
    exact .gw w1 (isi_ok r1 h).b
  | .comp own tg it c e, B, S, ven, en, u, b, r, h => by
    unfold evV at h
    obtain ⟨p, h1, h⟩ := VR.bind_ok h
    unfold fvE at r
    obtain ⟨ds, ck, S1, q1, w1, r1, k1⟩ := evt_ok hC it b r.l h1
    split at h
    · rename_i hlen
      cases hv : (compV (fun d => bindV tg d (wipeV ven own)) (fun en' => (evV CV c en').bind truU) (fun en' => evV CV e en') p.1).bind fun us => VR.ok (U.lst us) with
      | exc _ _ => rw [hv] at h; cases h
      | stuck => rw [hv] at h; cases h
      | ok u' =>
        rw [hv] at h
        cases h
        obtain ⟨us, h2, h3⟩ := VR.bind_ok hv
        cases h3
        have nB : ¬ B S1.length := fun z => Nat.lt_irrefl _ ((b.gw w1) _ z)
        have b1 : Bnd (fun k => B k ∨ k = S1.length) (S1 ++ [Ob.lst []]) := fun k hk => by
          rw [List.length_append, List.length_singleton]
          rcases hk with hk | hk
          · have := (b.gw w1) k hk; omega
          · omega
        have toB : ∀ l o, ¬ B l → S1[l]? = some o → ¬ (B l ∨ l = S1.length) ∧ (S1 ++ [Ob.lst []])[l]? = some o := fun l o n g => ⟨fun z => by
          rcases z with z | z
          · exact n z
          · have := lt_of_get g; omega, Gw.get .app g⟩
        have er : EnvR (fvE c ++ fvE e) (fun k => B k ∨ k = S1.length) (S1 ++ [Ob.lst []]) ven en := (r.r.gw w1).mono toB
        obtain ⟨S2, acc, q2, x2, q3, q4⟩ := comp_ok (B := fun k => B k ∨ k = S1.length) (l := S1.length) (ck := ck) (is := fvE c ++ fvE e) (S0 := S1 ++ [Ob.lst []])
          (bnd := fun d => bindT tg d (NL.wipeD en own)) (bndV := fun d => bindV tg d (wipeV ven own)) (c := fun en' => evE C c en' >>= truD) (cV := fun en' => (evV CV c en').bind truU) (e := fun en' => evE C e en') (eV := fun en' => evV CV e en')
          (.inr rfl) (fun S d u ven' x bS rd hb => bind_ok ((er.mono (x.mono (.inr rfl))).wipe own) rd hb)
          (fun S ven en t bS er hc => by
            obtain ⟨x, g1, g2⟩ := VR.bind_ok hc
            obtain ⟨d1, S1', z1, z2, z3, _⟩ := ev_ok hC c bS er.l g1
            refine ⟨S1', ?_, z2⟩
            show (evE C c en >>= truD) S = _
            rw [bind_eq, z1]
            exact tru_ok z3 g2)
          (fun S ven en u bS er he => (ev_ok hC e bS er.r he).ok1)
          (ds := ds) (us := p.1) (rs := us) (S := S1 ++ [Ob.lst []]) (acc := []) (ua := []) .refl b1
          (by
            cases ck with
            | none => trivial
            | some q => exact ⟨Gw.get .app k1.1, fun z => by
                rcases z with z | z
                · exact k1.2 z
                · have := lt_of_get k1.1; omega⟩)
          (r1.mono toB) (by simp) .nil (by rw [r1.length]; simpa using hlen) h2
        have g12 : Gw S1 S2 := Gw_of (fun k hk => by
          have e0 : (S1 ++ [Ob.lst []])[k]? = some S1[k] := by rw [List.getElem?_append_left hk, List.getElem?_eq_getElem hk]
          rw [x2.get k _ (by omega) e0, List.getElem?_eq_getElem hk]) (by have := x2.len; rw [List.length_append] at this; omega)
        unfold evE
        show OkB _ B S (R.bind (evIt C it en S) fun p S => noX (cmpL (ckD p.2) (fun d => bindT tg d (NL.wipeD en own)) (fun en' => evE C c en' >>= truD) (fun en' => evE C e en') S.length p.1 >>= fun _ => (pure (.ref S.length) : M D)) (S ++ [Ob.lst []])) _
        rw [q1]
        show OkB _ B S (noX (cmpL (ckD ck) (fun d => bindT tg d (NL.wipeD en own)) (fun en' => evE C c en' >>= truD) (fun en' => evE C e en') S1.length ds >>= fun _ => (pure (.ref S1.length) : M D)) (S1 ++ [Ob.lst []])) _
        have q2' : (cmpL (ckD ck) (fun d => bindT tg d (NL.wipeD en own)) (fun en' => evE C c en' >>= truD) (fun en' => evE C e en') S1.length ds >>= fun _ => (pure (.ref S1.length) : M D)) (S1 ++ [Ob.lst []]) = .ok (.ref S1.length) S2 := by
          rw [bind_eq, q2]; rfl
        unfold noX
        rw [q2']
        have q4' : Rds (fun k => B k ∨ k = S1.length) S2 acc us := by simpa using q4
        exact ⟨.ref S1.length, S2, rfl, w1.trans g12, .lst nB q3 (q4'.mono fun l o n g => ⟨fun z => n (.inl z), g⟩), fun _ _ => ⟨S1.length, acc, us, rfl, w1.len, rfl, q3, q4'⟩⟩
    · cases h
theorem evs_ok (hC : CallOk fr C CV) : ∀ (es : Es) {B : Nat → Prop} {S : Store} {ven : VEnv} {en : NL.Env} {us : List U}, Bnd B S → EnvR (fvEs es) B S ven en → evVs CV es ven = .ok us → ∃ ds S1, evEs C es en S = .ok ds S1 ∧ Gw S S1 ∧ Rds B S1 ds us
  | .nil, B, S, ven, en, us, b, r, h => by
    unfold evVs at h
    cases h
    exact ⟨[], S, by unfold evEs; rfl, .refl S, .nil⟩
  | .cons e es, B, S, ven, en, us, b, r, h => by
    unfold evVs at h
    obtain ⟨x, h1, h⟩ := VR.bind_ok h
    obtain ⟨xs, h2, h⟩ := VR.bind_ok h
    cases h
    unfold fvEs at r
    obtain ⟨d1, S1, q1, w1, r1, _⟩ := ev_ok hC e b r.l h1
    obtain ⟨ds, S2, q2, w2, r2⟩ := evs_ok hC es (b.gw w1) (r.r.gw w1) h2
    refine ⟨d1 :: ds, S2, ?_, w1.trans w2, .cons (r1.gw w2) r2⟩
    unfold evEs
    rw [bind_eq, q1]
    show (evEs C es en >>= fun xs => (pure (d1 :: xs) : M (List D))) S1 = _
    rw [bind_eq, q2]; rfl
theorem evt_ok (hC : CallOk fr C CV) : ∀ (it : NL.It) {B : Nat → Prop} {S : Store} {ven : VEnv} {en : NL.Env} {p : List U × Bool}, Bnd B S → EnvR (fvI it) B S ven en → evVt CV it ven = .ok p → ∃ ds ck S1, evIt C it en S = .ok (ds, ck) S1 ∧ Gw S S1 ∧ Rds B S1 ds p.1 ∧ CkOkV B ck S1
  | .val e, B, S, ven, en, p, b, r, h => by
    unfold evVt at h
    obtain ⟨x, h1, h⟩ := VR.bind_ok h
    unfold fvI at r
    obtain ⟨d1, S1, q1, w1, r1, _⟩ := ev_ok hC e b r h1
    unfold evIt
    rw [bind_eq, q1]
    unfold iterU at h
    split at h
    · cases r1
      rename_i r1
      cases h
      exact ⟨_, none, S1, rfl, w1, r1, trivial⟩
    · split at h
      · rename_i hx
        cases h
        obtain ⟨l, o, rfl, g1, n1, r1⟩ := at_sq r1 hx
        refine ⟨items o, some (l, o), S1, ?_, w1, r1, g1, n1⟩
        show (match S1[l]? with | some o => R.ok (items o, some (l, o)) S1 | none => .stuck) = _
        rw [g1]
      · cases h
  | .rng1 b', B, S, ven, en, p, b, r, h => by
    unfold evVt at h
    obtain ⟨y, h1, h⟩ := VR.bind_ok h
    obtain ⟨xs, h2, h⟩ := VR.bind_ok h
    cases h
    unfold fvI at r
    obtain ⟨d1, S1, q1, w1, r1, _⟩ := ev_ok hC b' b r h1
    obtain ⟨ds, q2, r2⟩ := rng_ok (.int 0) r1 h2
    refine ⟨ds, none, S1, ?_, w1, r2 _ _, trivial⟩
    unfold evIt
    rw [bind_eq, q1]
    show (rngD (.int 0) d1 >>= fun xs => (pure (xs, none) : M (List D × Option (Nat × Ob)))) S1 = _
    rw [bind_eq, q2]; rfl
  | .rng2 a b', B, S, ven, en, p, b, r, h => by
    unfold evVt at h
    obtain ⟨x, h0, h⟩ := VR.bind_ok h
    obtain ⟨y, h1, h⟩ := VR.bind_ok h
    obtain ⟨xs, h2, h⟩ := VR.bind_ok h
    cases h
    unfold fvI at r
    obtain ⟨d0, S0, q0, w0, r0, _⟩ := ev_ok hC a b r.l h0
    obtain ⟨d1, S1, q1, w1, r1, _⟩ := ev_ok hC b' (b.gw w0) (r.r.gw w0) h1
    obtain ⟨ds, q2, r2⟩ := rng_ok (r0.gw w1) r1 h2
    refine ⟨ds, none, S1, ?_, w0.trans w1, r2 _ _, trivial⟩
    unfold evIt
    rw [bind_eq, q0]
    show (evE C b' en >>= fun y => rngD d0 y >>= fun xs => (pure (xs, none) : M (List D × Option (Nat × Ob)))) S0 = _
    rw [bind_eq, q1]
    show (rngD d0 d1 >>= fun xs => (pure (xs, none) : M (List D × Option (Nat × Ob)))) S1 = _
    rw [bind_eq, q2]; rfl
end
end
end VL

/-! Statements over trees. -/
namespace VL
open PySem PySem.Spec PyProof.Rows L2 NL
inductive VF where
  | nx (en : VEnv) | brk (en : VEnv) | cnt (en : VEnv) | ret (w : Bool) (u : U)
def low (en : VEnv) (i : Nat) : VEnv := match en[i]? with
  | some (some p) => en.set i (some (false, p.2))
  | _ => en
/-- their lists are no longer their own -/
def unown (en : VEnv) : List Nat → VEnv
  | [] => en
  | i :: is => unown (low en i) is
def isL : U → Bool
  | .lst _ => true
  | _ => false
/-- nothing of what stood may lie within -/
def keeps (w : Bool) (u : U) : Bool := noL u || (w && match u with | .lst us => noLs us | _ => false)
def leak (w : Bool) (u : U) (is : List Nat) (en : VEnv) : VEnv := if keeps w u = true then en else unown en is
def leaks (us : List U) (is : List Nat) (en : VEnv) : VEnv := if noLs us = true then en else unown en is
/-- an own list -/
def ownV (en : VEnv) (i : Nat) : VR (List U) := match en[i]? with
  | some (some (true, .lst us)) => .ok us
  | _ => .stuck
def intV (en : VEnv) (i : Nat) : VR Int := match en[i]? with
  | some (some (_, .int x)) => .ok x
  | _ => .stuck
def toI : U → VR Int
  | .int x => .ok x
  | _ => .stuck
def ownR (en : VEnv) : E → Bool
  | .var i => (match en[i]? with | some (some p) => p.1 | _ => false)
  | _ => false
def forV (bnd : U → VEnv → VR VEnv) (b : VEnv → VR VF) : List U → VEnv → VR VF
  | [], en => .ok (.nx en)
  | x :: xs, en => (bnd x en).bind fun en1 => (b en1).bind fun f => match f with
    | .nx en' => forV bnd b xs en'
    | .cnt en' => forV bnd b xs en'
    | .brk en' => .ok (.nx en')
    | f => .ok f
def whlV (c : VEnv → VR Bool) (b : VEnv → VR VF) : Nat → VEnv → VR VF
  | 0, _ => .stuck
  | n + 1, en => (c en).bind fun t => if t = true then (b en).bind fun f => match f with
    | .nx en' => whlV c b n en'
    | .cnt en' => whlV c b n en'
    | .brk en' => .ok (.nx en')
    | f => .ok f else .ok (.nx en)
section
variable (fr : Nat → Bool) (C : Nat → List U → VR U)
mutual
noncomputable def exV : NL.St → VEnv → VR VF
  | .set i e, en => (evV C e en).bind fun u => .ok (.nx ((leak (freshE fr e && isL u) u (fvE e) en).set i (some (freshE fr e && isL u, u))))
  | .unp is e, en => (evV C e en).bind fun u => (unpU is.length u).bind fun us => .ok (.nx (setAllV (leaks us (fvE e) en) is us))
  | .setIx (.var j) i e, en => (evV C e en).bind fun v => (evV C i en).bind fun y => (toI y).bind fun k => (ownV (leak false v (fvE e) en) j).bind fun us => match ixN us.length k with
    | some n => .ok (.nx ((leak false v (fvE e) en).set j (some (true, .lst (us.set n v)))))
    | none => .stuck
  | .setIx _ _ _, _ => .stuck
  | .aug i e, en => (intV en i).bind fun x => (evV C e en).bind fun y => (toI y).bind fun y => .ok (.nx (en.set i (some (false, .int (x + y)))))
  | .expr e, en => (evV C e en).bind fun _ => .ok (.nx en)
  | .app i e, en => (ownV en i).bind fun _ => (evV C e en).bind fun u => (ownV (leak false u (fvE e) en) i).bind fun us => if us.length < sizeLine then .ok (.nx ((leak false u (fvE e) en).set i (some (true, .lst (us ++ [u]))))) else .stuck
  | .ret e, en => (evV C e en).bind fun u => .ok (.ret ((freshE fr e && isL u) || ownR en e) u)
  | .ret0, _ => .ok (.ret false .non)
  | .ifs c a b, en => (evV C c en).bind fun x => (truU x).bind fun t => if t = true then exVB a en else exVB b en
  | .for_ tg (.val e) b, en => (evV C e en).bind fun u => (iterU u).bind fun p => forV (bindV tg) (fun en' => exVB b en') p.1 (if ((!p.2 || (freshE fr e && isL u)) && noLs p.1) = true then en else unown en (fvE e))
  | .for_ tg it b, en => (evVt C it en).bind fun p => forV (bindV tg) (fun en' => exVB b en') p.1 en
  | .whl c b, en => whlV (fun en' => (evV C c en').bind truU) (fun en' => exVB b en') fuel en
  | .brk, en => .ok (.brk en)
  | .cnt, en => .ok (.cnt en)
  | .pass, en => .ok (.nx en)
  | .dead, _ => .stuck
noncomputable def exVB : Sts → VEnv → VR VF
  | .nil, en => .ok (.nx en)
  | .cons s r, en => (exV s en).bind fun f => match f with
    | .nx en' => exVB r en'
    | f => .ok f
end
end
noncomputable def runV (fr : Nat → Bool) (C : Nat → List U → VR U) (w : Bool) (f : Fn) (us : List U) : VR U :=
  if us.length = f.np then match exVB fr C f.body (us.map (fun u => some (false, u)) ++ List.replicate (f.nv - f.np) none) with
    | .ok (.nx _) => .ok .non
    | .ok (.ret o u) => if (w && isL u && !o) = true then .stuck else .ok u
    | .exc c u => .exc c u
    | _ => .stuck
  else .stuck
/-- a call, at most n deep; fr: whose lists are new -/
noncomputable def callV (T : Nat → Option Fn) (fr : Nat → Bool) : Nat → Nat → List U → VR U
  | 0, _, _ => .stuck
  | n + 1, f, us => match T f with
    | some fn => runV fr (callV T fr n) (fr f) fn us
    | none => .stuck

/-! ### they are the store's -/
structure EnvOk (A0 A : Nat → Prop) (b : Nat) (S : Store) (ven : VEnv) (en : NL.Env) : Prop where
  len : ven.length = en.length
  own : ∀ (i : Nat) (u : U), ven[i]? = some (some (true, u)) → ∃ (l : Nat) (xs : List D) (us : List U), en[i]? = some (some (D.ref l)) ∧ u = U.lst us ∧ A l ∧ S[l]? = some (Ob.lst xs) ∧ Rds (fun k => A0 k ∨ A k) S xs us
  get : ∀ (i : Nat) (u : U), ven[i]? = some (some (false, u)) → ∃ (d : D), en[i]? = some (some d) ∧ Rd (fun k => A0 k ∨ A k) S d u
  inj : ∀ (i j : Nat) (u v : U) (l : Nat), ven[i]? = some (some (true, u)) → ven[j]? = some (some (true, v)) → en[i]? = some (some (D.ref l)) → en[j]? = some (some (D.ref l)) → i = j
  bA : ∀ l, A l → b ≤ l ∧ l < S.length
  b0 : ∀ l, A0 l → l < b
  bS : b ≤ S.length
structure Fra (A : Nat → Prop) (S : Store) (A' : Nat → Prop) (S' : Store) : Prop where
  len : S.length ≤ S'.length
  get : ∀ (l : Nat) (o : Ob), ¬ A l → S[l]? = some o → S'[l]? = some o
  sub : ∀ l, A' l → A l ∨ S.length ≤ l
section
variable {A0 A A' A1 A2 : Nat → Prop} {b : Nat} {S S' S1 S2 : Store} {ven : VEnv} {en : NL.Env}
theorem Fra.refl : Fra A S A S := ⟨Nat.le_refl _, fun _ _ _ h => h, fun _ h => .inl h⟩
theorem Fra.trans (a : Fra A S A1 S1) (c : Fra A1 S1 A2 S2) : Fra A S A2 S2 := by
  refine ⟨Nat.le_trans a.len c.len, fun l o n h => c.get l o (fun z => ?_) (a.get l o n h), fun l z => ?_⟩
  · rcases a.sub l z with y | y
    · exact n y
    · have := lt_of_get h; omega
  · rcases c.sub l z with y | y
    · exact a.sub l y
    · have := a.len; exact .inr (by omega)
theorem Fra.gw (g : Gw S S') : Fra A S A S' := ⟨g.len, fun l o _ h => g.get h, fun _ h => .inl h⟩
theorem Fra.mono (f : Fra A S A' S') (b0 : ∀ l, A0 l → l < S.length) : ∀ l o, ¬ (A0 l ∨ A l) → S[l]? = some o → ¬ (A0 l ∨ A' l) ∧ S'[l]? = some o := fun l o n h => ⟨fun z => by
  rcases z with z | z
  · exact n (.inl z)
  · rcases f.sub l z with y | y
    · exact n (.inr y)
    · have := lt_of_get h; omega, f.get l o (fun z => n (.inr z)) h⟩
theorem EnvOk.b0S (h : EnvOk A0 A b S ven en) : ∀ l, A0 l → l < S.length := fun l z => Nat.lt_of_lt_of_le (h.b0 l z) h.bS
theorem EnvOk.gw (h : EnvOk A0 A b S ven en) (g : Gw S S') : EnvOk A0 A b S' ven en := by
  refine ⟨h.len, fun i u e => ?_, fun i u e => ?_, h.inj, fun l z => ?_, h.b0, Nat.le_trans h.bS g.len⟩
  · obtain ⟨l, xs, us, h1, h2, h3, h4, h5⟩ := h.own i u e
    exact ⟨l, xs, us, h1, h2, h3, g.get h4, h5.gw g⟩
  · obtain ⟨d, h1, h2⟩ := h.get i u e
    exact ⟨d, h1, h2.gw g⟩
  · have := h.bA l z; have := g.len; omega
/-- the places that the own lists of these names are not -/
def Oth (A0 A : Nat → Prop) (is : List Nat) (ven : VEnv) (en : NL.Env) : Nat → Prop := fun k => A k ∧ ¬ ∃ i ∈ is, ∃ u, ven[i]? = some (some (true, u)) ∧ en[i]? = some (some (D.ref k))
theorem EnvOk.envR (h : EnvOk A0 A b S ven en) (is : List Nat) : EnvR is (fun k => A0 k ∨ Oth A0 A is ven en k) S ven en := by
  refine ⟨h.len, fun i hi w u e => ?_⟩
  have m : ∀ l o, ¬ (A0 l ∨ A l) → S[l]? = some o → ¬ (A0 l ∨ Oth A0 A is ven en l) ∧ S[l]? = some o := fun l o n g => ⟨fun z => n (z.imp id (fun z => z.1)), g⟩
  cases w with
  | false =>
    obtain ⟨d, h1, h2⟩ := h.get i u e
    exact ⟨d, h1, h2.mono m⟩
  | true =>
    obtain ⟨l, xs, us, h1, h2, h3, h4, h5⟩ := h.own i u e
    subst h2
    refine ⟨_, h1, .lst ?_ h4 (h5.mono m)⟩
    rintro (z | z)
    · have := h.b0 l z; have := (h.bA l h3).1; omega
    · exact z.2 ⟨i, hi, _, e, h1⟩
theorem EnvOk.bnd (h : EnvOk A0 A b S ven en) (is : List Nat) : Bnd (fun k => A0 k ∨ Oth A0 A is ven en k) S := fun l z => by
  rcases z with z | z
  · exact h.b0S l z
  · exact (h.bA l z.1).2
theorem low_len {i : Nat} : (low ven i).length = ven.length := by
  unfold low
  split
  · rw [List.length_set]
  · rfl
theorem low_same {i : Nat} {w : Bool} {u : U} (e : ven[i]? = some (some (w, u))) : (low ven i)[i]? = some (some (false, u)) := by
  unfold low
  rw [e]
  exact List.getElem?_set_self (List.getElem?_eq_some_iff.mp e).1
theorem low_back {i j : Nat} {w : Bool} {u : U} (e : (low ven i)[j]? = some (some (w, u))) : ∃ w', ven[j]? = some (some (w', u)) ∧ (w = true → w' = true ∧ i ≠ j) := by
  unfold low at e
  split at e
  · rename_i p hp
    by_cases hij : i = j
    · subst hij
      rw [List.getElem?_set_self (List.getElem?_eq_some_iff.mp hp).1] at e
      cases e
      exact ⟨p.1, hp, fun z => by cases z⟩
    · rw [List.getElem?_set_ne hij] at e
      exact ⟨w, e, fun z => ⟨z, hij⟩⟩
  · rename_i hn
    refine ⟨w, e, fun z => ⟨z, fun hij => ?_⟩⟩
    subst hij
    exact hn _ e
theorem unown_len : ∀ {is : List Nat} {ven : VEnv}, (unown ven is).length = ven.length
  | [], _ => rfl
  | i :: is, ven => by
    unfold unown
    rw [unown_len, low_len]
theorem unown_back : ∀ {is : List Nat} {ven : VEnv} {j : Nat} {w : Bool} {u : U}, (unown ven is)[j]? = some (some (w, u)) → ∃ w', ven[j]? = some (some (w', u)) ∧ (w = true → w' = true ∧ j ∉ is)
  | [], ven, j, w, u, e => ⟨w, e, fun z => ⟨z, by simp⟩⟩
  | i :: is, ven, j, w, u, e => by
    unfold unown at e
    obtain ⟨w1, e1, k1⟩ := unown_back (is := is) e
    obtain ⟨w2, e2, k2⟩ := low_back e1
    refine ⟨w2, e2, fun z => ?_⟩
    obtain ⟨z1, z2⟩ := k1 z
    obtain ⟨z3, z4⟩ := k2 z1
    refine ⟨z3, fun hm => ?_⟩
    rcases List.mem_cons.mp hm with e | hm
    · exact z4 e.symm
    · exact z2 hm
/-- names that give up their own lists -/
theorem EnvOk.unown (h : EnvOk A0 A b S ven en) (is : List Nat) : EnvOk A0 (Oth A0 A is ven en) b S (VL.unown ven is) en := by
  have m : ∀ l o, ¬ (A0 l ∨ A l) → S[l]? = some o → ¬ (A0 l ∨ Oth A0 A is ven en l) ∧ S[l]? = some o := fun l o n g => ⟨fun z => n (z.imp id (fun z => z.1)), g⟩
  refine ⟨by rw [unown_len]; exact h.len, fun i u e => ?_, fun i u e => ?_, fun i j u v l e1 e2 g1 g2 => ?_, fun l z => h.bA l z.1, h.b0, h.bS⟩
  · obtain ⟨w', e', k⟩ := unown_back e
    obtain ⟨rfl, hi⟩ := k rfl
    obtain ⟨l, xs, us, h1, h2, h3, h4, h5⟩ := h.own i u e'
    refine ⟨l, xs, us, h1, h2, ⟨h3, ?_⟩, h4, h5.mono m⟩
    rintro ⟨j, hj, v, q1, q2⟩
    have := h.inj i j u v l e' q1 h1 q2
    subst this
    exact hi hj
  · obtain ⟨w', e', k⟩ := unown_back e
    by_cases hi : i ∈ is
    · obtain ⟨d, h1, h2⟩ := (h.envR is).get i hi w' u e'
      exact ⟨d, h1, h2⟩
    · cases w' with
      | false =>
        obtain ⟨d, h1, h2⟩ := h.get i u e'
        exact ⟨d, h1, h2.mono m⟩
      | true =>
        -- only names of is lose theirs
        exfalso
        clear k
        have key : ∀ {is : List Nat} {ven : VEnv}, i ∉ is → ven[i]? = some (some (true, u)) → (VL.unown ven is)[i]? = some (some (true, u)) := by
          intro is
          induction is with
          | nil => intro ven _ e; exact e
          | cons j is ih =>
            intro ven hn e
            unfold VL.unown
            refine ih (fun z => hn (List.mem_cons_of_mem _ z)) ?_
            have hji : j ≠ i := fun z => hn (by rw [z]; exact List.mem_cons_self)
            unfold low
            split
            · rw [List.getElem?_set_ne hji]; exact e
            · exact e
        have := key hi e'
        rw [e] at this
        cases this
  · obtain ⟨w1, f1, k1⟩ := unown_back e1
    obtain ⟨w2, f2, k2⟩ := unown_back e2
    obtain ⟨rfl, _⟩ := k1 rfl
    obtain ⟨rfl, _⟩ := k2 rfl
    exact h.inj i j u v l f1 f2 g1 g2
theorem Fra.oth {is : List Nat} : Fra A S (Oth A0 A is ven en) S := ⟨Nat.le_refl _, fun _ _ _ h => h, fun _ h => .inl h.1⟩
/-- a name takes a shared value -/
theorem EnvOk.set (h : EnvOk A0 A b S ven en) {d : D} {u : U} (r : Rd (fun k => A0 k ∨ A k) S d u) (i : Nat) : EnvOk A0 A b S (ven.set i (some (false, u))) (en.set i (some d)) := by
  have ne : ∀ {j : Nat} {w : Bool} {v : U}, (ven.set i (some (false, u)))[j]? = some (some (w, v)) → (i = j ∧ w = false ∧ v = u ∧ (en.set i (some d))[j]? = some (some d)) ∨ (i ≠ j ∧ ven[j]? = some (some (w, v)) ∧ (en.set i (some d))[j]? = en[j]?) := fun {j w v} e => by
    by_cases hij : i = j
    · subst hij
      by_cases hl : i < ven.length
      · rw [List.getElem?_set_self hl] at e
        cases e
        exact .inl ⟨rfl, rfl, rfl, List.getElem?_set_self (by rw [← h.len]; exact hl)⟩
      · rw [List.getElem?_eq_none (by simpa using hl)] at e; cases e
    · rw [List.getElem?_set_ne hij] at e
      exact .inr ⟨hij, e, List.getElem?_set_ne hij⟩
  refine ⟨by simp [h.len], fun j v e => ?_, fun j v e => ?_, fun j k v w l e1 e2 g1 g2 => ?_, h.bA, h.b0, h.bS⟩
  · rcases ne e with ⟨_, z, _⟩ | ⟨_, e', q⟩
    · cases z
    · rw [q]; exact h.own j v e'
  · rcases ne e with ⟨_, _, rfl, q⟩ | ⟨_, e', q⟩
    · exact ⟨d, q, r⟩
    · rw [q]; exact h.get j v e'
  · rcases ne e1 with ⟨_, z, _⟩ | ⟨_, f1, q1⟩
    · cases z
    · rcases ne e2 with ⟨_, z, _⟩ | ⟨_, f2, q2⟩
      · cases z
      · rw [q1] at g1; rw [q2] at g2
        exact h.inj j k v w l f1 f2 g1 g2
/-- a name takes a list of its own, at a place that no other own name has -/
theorem EnvOk.setOwn (h : EnvOk A0 A b S ven en) {l : Nat} {xs : List D} {us : List U} {i : Nat} {A' : Nat → Prop} (hs : ∀ k, A' k ↔ A k ∨ k = l) (hl : b ≤ l) (e0 : S[l]? = some (Ob.lst xs)) (r : Rds (fun k => A0 k ∨ A' k) S xs us)
    (mv : ∀ {d : D} {u : U}, Rd (fun k => A0 k ∨ A k) S d u → Rd (fun k => A0 k ∨ A' k) S d u) (mvs : ∀ {ds : List D} {us : List U}, Rds (fun k => A0 k ∨ A k) S ds us → Rds (fun k => A0 k ∨ A' k) S ds us)
    (fresh : ∀ j v, j ≠ i → ven[j]? = some (some (true, v)) → en[j]? ≠ some (some (D.ref l))) : EnvOk A0 A' b S (ven.set i (some (true, .lst us))) (en.set i (some (.ref l))) := by
  have ne : ∀ {j : Nat} {w : Bool} {v : U}, (ven.set i (some (true, .lst us)))[j]? = some (some (w, v)) → (i = j ∧ w = true ∧ v = U.lst us ∧ (en.set i (some (.ref l)))[j]? = some (some (D.ref l))) ∨ (i ≠ j ∧ ven[j]? = some (some (w, v)) ∧ (en.set i (some (.ref l)))[j]? = en[j]?) := fun {j w v} e => by
    by_cases hij : i = j
    · subst hij
      by_cases hl : i < ven.length
      · rw [List.getElem?_set_self hl] at e
        cases e
        exact .inl ⟨rfl, rfl, rfl, List.getElem?_set_self (by rw [← h.len]; exact hl)⟩
      · rw [List.getElem?_eq_none (by simpa using hl)] at e; cases e
    · rw [List.getElem?_set_ne hij] at e
      exact .inr ⟨hij, e, List.getElem?_set_ne hij⟩
  refine ⟨by simp [h.len], fun j v e => ?_, fun j v e => ?_, fun j k v w l' e1 e2 g1 g2 => ?_, fun k z => ?_, h.b0, h.bS⟩
  · rcases ne e with ⟨_, _, rfl, q⟩ | ⟨_, e', q⟩
    · exact ⟨l, xs, us, q, rfl, (hs l).mpr (.inr rfl), e0, r⟩
    · obtain ⟨l', xs', us', h1, h2, h3, h4, h5⟩ := h.own j v e'
      exact ⟨l', xs', us', by rw [q]; exact h1, h2, (hs l').mpr (.inl h3), h4, mvs h5⟩
  · rcases ne e with ⟨_, z, _⟩ | ⟨_, e', q⟩
    · cases z
    · obtain ⟨d, h1, h2⟩ := h.get j v e'
      exact ⟨d, by rw [q]; exact h1, mv h2⟩
  · rcases ne e1 with ⟨i1, _, _, q1⟩ | ⟨n1, f1, q1⟩
    · rcases ne e2 with ⟨i2, _⟩ | ⟨n2, f2, q2⟩
      · exact i1.symm.trans i2
      · rw [q1] at g1; cases g1
        rw [q2] at g2
        exact absurd g2 (fresh k w (fun z => n2 z.symm) f2)
    · rcases ne e2 with ⟨i2, _, _, q2⟩ | ⟨n2, f2, q2⟩
      · rw [q2] at g2; cases g2
        rw [q1] at g1
        exact absurd g1 (fresh j v (fun z => n1 z.symm) f1)
      · rw [q1] at g1; rw [q2] at g2
        exact h.inj j k v w l' f1 f2 g1 g2
  · rcases (hs k).mp z with z | z
    · exact h.bA k z
    · subst z; exact ⟨hl, lt_of_get e0⟩
end
end VL

/-! Statements over trees are the store's. -/
namespace VL
open PySem PySem.Spec PyProof.Rows L2 NL
section
variable {A0 A A' A1 A2 : Nat → Prop} {b : Nat} {S S' S1 S2 : Store} {ven : VEnv} {en : NL.Env}
/-- what is asked of an answer that is kept -/
structure Kept (A0 A1 B : Nat → Prop) (w : Bool) (u : U) : Prop where
  sh : w = false → ∀ {S1 : Store} {d : D}, Rd B S1 d u → Rd (fun k => A0 k ∨ A1 k) S1 d u
  ow : w = true → ∀ {b' : Nat} {S1 : Store} {d : D}, FrD B b' S1 d u → ∃ l xs us, d = .ref l ∧ b' ≤ l ∧ u = .lst us ∧ S1[l]? = some (Ob.lst xs) ∧ Rds (fun k => A0 k ∨ (A1 k ∨ k = l)) S1 xs us
theorem leak_ok (h : EnvOk A0 A b S ven en) (w : Bool) (u : U) (is : List Nat) : ∃ A1, EnvOk A0 A1 b S (leak w u is ven) en ∧ Fra A S A1 S ∧ Kept A0 A1 (fun k => A0 k ∨ Oth A0 A is ven en k) w u := by
  unfold leak
  by_cases hk : keeps w u = true
  · rw [if_pos hk]
    refine ⟨A, h, .refl, fun e => ?_, fun e => ?_⟩
    · subst e
      have : noL u = true := by unfold keeps at hk; simpa using hk
      intro S1 d r
      exact r.of_noL this
    · subst e
      intro b' S1 d ⟨l, xs, us, h1, h2, h3, h4, h5⟩
      subst h3
      have : noLs us = true := by
        unfold keeps at hk
        have : noL (.lst us) = false := by unfold noL; rfl
        rw [this] at hk
        simpa using hk
      exact ⟨l, xs, us, h1, h2, rfl, h4, h5.of_noL this⟩
  · rw [if_neg hk]
    refine ⟨Oth A0 A is ven en, h.unown is, .oth, fun _ => ?_, fun _ => ?_⟩
    · intro S1 d r; exact r
    · intro b' S1 d ⟨l, xs, us, h1, h2, h3, h4, h5⟩
      refine ⟨l, xs, us, h1, h2, h3, h4, h5.mono fun k o n g => ⟨fun z => n ?_, g⟩⟩
      rcases z with z | z | z
      · exact .inl (.inl z)
      · exact .inl (.inr z)
      · exact .inr z
theorem leaks_ok (h : EnvOk A0 A b S ven en) (us : List U) (is : List Nat) : ∃ A1, EnvOk A0 A1 b S (leaks us is ven) en ∧ Fra A S A1 S ∧ ∀ {S1 : Store} {ds : List D}, Rds (fun k => A0 k ∨ Oth A0 A is ven en k) S1 ds us → Rds (fun k => A0 k ∨ A1 k) S1 ds us := by
  unfold leaks
  by_cases hk : noLs us = true
  · rw [if_pos hk]
    exact ⟨A, h, .refl, fun r => r.of_noL hk⟩
  · rw [if_neg hk]
    exact ⟨Oth A0 A is ven en, h.unown is, .oth, fun r => r⟩
theorem set_ev (h : EnvOk A0 A b S ven en) {is : List Nat} {fl : Bool} {r : R D} {u : U} (q : OkB fl (fun k => A0 k ∨ Oth A0 A is ven en k) S r u) (i : Nat) :
    ∃ d S1 A1, r = .ok d S1 ∧ EnvOk A0 A1 b S1 ((leak (fl && isL u) u is ven).set i (some (fl && isL u, u))) (en.set i (some d)) ∧ Fra A S A1 S1 := by
  obtain ⟨d, S1, h1, h2, h3, h4⟩ := q
  obtain ⟨A1, e1, f1, k1⟩ := leak_ok h (fl && isL u) u is
  cases hw : fl && isL u with
  | false =>
    rw [hw] at e1 k1
    exact ⟨d, S1, A1, h1, (e1.gw h2).set (k1.sh rfl h3) i, f1.trans (.gw h2)⟩
  | true =>
    rw [hw] at e1 k1
    rw [Bool.and_eq_true] at hw
    have hu : ∃ us, u = .lst us := by
      have := hw.2
      cases u <;> first | (exact absurd this Bool.false_ne_true) | exact ⟨_, rfl⟩
    obtain ⟨l, xs, us, g1, g2, g3, g4, g5⟩ := k1.ow rfl (h4 hw.1 hu)
    subst g1 g3
    have mv : ∀ l' o, ¬ (A0 l' ∨ A1 l') → S[l']? = some o → ¬ (A0 l' ∨ (A1 l' ∨ l' = l)) ∧ S1[l']? = some o := fun l' o n g => ⟨fun z => by
      rcases z with z | z | z
      · exact n (.inl z)
      · exact n (.inr z)
      · have := lt_of_get g; omega, h2.get g⟩
    refine ⟨_, S1, fun k => A1 k ∨ k = l, h1, ?_, ?_⟩
    · -- the reads of before avoid the new place
      refine ⟨by simp [e1.len], fun j v e => ?_, fun j v e => ?_, fun j k v w l' x1 x2 y1 y2 => ?_, fun k z => ?_, h.b0, Nat.le_trans h.bS h2.len⟩
      · by_cases hij : i = j
        · subst hij
          have hl : i < (leak true (U.lst us) is ven).length := by
            have := (List.getElem?_eq_some_iff.mp e).1; simpa using this
          rw [List.getElem?_set_self hl] at e
          cases e
          exact ⟨l, xs, us, List.getElem?_set_self (by rw [← e1.len]; exact hl), rfl, .inr rfl, g4, g5⟩
        · rw [List.getElem?_set_ne hij] at e
          obtain ⟨l', xs', us', q1, q2, q3, q4, q5⟩ := e1.own j v e
          exact ⟨l', xs', us', by rw [List.getElem?_set_ne hij]; exact q1, q2, .inl q3, h2.get q4, q5.mono mv⟩
      · by_cases hij : i = j
        · subst hij
          have hl : i < (leak true (U.lst us) is ven).length := by
            have := (List.getElem?_eq_some_iff.mp e).1; simpa using this
          rw [List.getElem?_set_self hl] at e
          cases e
        · rw [List.getElem?_set_ne hij] at e
          obtain ⟨d', q1, q2⟩ := e1.get j v e
          exact ⟨d', by rw [List.getElem?_set_ne hij]; exact q1, q2.mono mv⟩
      · have at_ : ∀ {j : Nat} {v : U} {l' : Nat}, ((leak true (U.lst us) is ven).set i (some (true, .lst us)))[j]? = some (some (true, v)) → (en.set i (some (D.ref l)))[j]? = some (some (D.ref l')) → (i = j ∧ l' = l) ∨ (i ≠ j ∧ l' < S.length ∧ (leak true (U.lst us) is ven)[j]? = some (some (true, v)) ∧ en[j]? = some (some (D.ref l'))) := fun {j v l'} x y => by
          by_cases hij : i = j
          · subst hij
            have hl : i < en.length := by
              have := (List.getElem?_eq_some_iff.mp y).1; simpa using this
            rw [List.getElem?_set_self hl] at y
            cases y
            exact .inl ⟨rfl, rfl⟩
          · rw [List.getElem?_set_ne hij] at x y
            obtain ⟨l2, xs', us', q1, q2, q3, q4, q5⟩ := e1.own j v x
            rw [q1] at y
            cases y
            exact .inr ⟨hij, lt_of_get q4, x, q1⟩
        rcases at_ x1 y1 with ⟨i1, i2⟩ | ⟨i1, i2, i3, i4⟩
        · rcases at_ x2 y2 with ⟨j1, j2⟩ | ⟨j1, j2, j3, j4⟩
          · exact i1.symm.trans j1
          · omega
        · rcases at_ x2 y2 with ⟨j1, j2⟩ | ⟨j1, j2, j3, j4⟩
          · omega
          · exact e1.inj j k v w l' i3 j3 i4 j4
      · rcases z with z | z
        · have := e1.bA k z; have := h2.len; omega
        · subst z
          have := lt_of_get g4
          have := h.bS
          omega
    · refine f1.trans ⟨h2.len, fun l' o _ g => h2.get g, fun k z => ?_⟩
      rcases z with z | z
      · exact .inl z
      · subst z; exact .inr g2
theorem EnvOk.setAll : ∀ {ks : List Nat} {ds : List D} {us : List U} {ven : VEnv} {en : NL.Env}, EnvOk A0 A b S ven en → Rds (fun k => A0 k ∨ A k) S ds us → EnvOk A0 A b S (setAllV ven ks us) (NL.setAll en ks ds)
  | [], _, _, _, _, h, _ => by unfold setAllV NL.setAll; exact h
  | k :: ks, _, _, _, _, h, .nil => by unfold setAllV NL.setAll; exact h
  | k :: ks, _, _, _, _, h, .cons a r => by
    unfold setAllV NL.setAll
    exact EnvOk.setAll (h.set a k) r
theorem bindE_ok {tg : Tg} {d : D} {u : U} {ven' : VEnv} (h : EnvOk A0 A b S ven en) (r : Rd (fun k => A0 k ∨ A k) S d u) (hb : bindV tg u ven = .ok ven') : ∃ en', NL.bindT tg d en S = .ok en' S ∧ EnvOk A0 A b S ven' en' := by
  cases tg with
  | nm i => cases hb; exact ⟨_, rfl, h.set r i⟩
  | tp ks =>
    obtain ⟨us, h1, h2⟩ := VR.bind_ok hb
    cases h2
    obtain ⟨ds, h3, h4⟩ := unp_ok r h1
    refine ⟨NL.setAll en ks ds, ?_, h.setAll h4⟩
    show (unpD ks.length d >>= fun ds => (pure (NL.setAll en ks ds) : M NL.Env)) S = _
    rw [bind_eq, h3]; rfl
/-- an own list is written -/
theorem EnvOk.mut (h : EnvOk A0 A b S ven en) {i : Nat} {us us' : List U} (hi : ven[i]? = some (some (true, U.lst us))) {l : Nat} (hl : en[i]? = some (some (D.ref l))) (hA : A l) (hlt : l < S.length) {xs' : List D} (r : Rds (fun k => A0 k ∨ A k) S xs' us') :
    EnvOk A0 A b (S.set l (.lst xs')) (ven.set i (some (true, .lst us'))) en := by
  have mv : ∀ l' o, ¬ (A0 l' ∨ A l') → S[l']? = some o → ¬ (A0 l' ∨ A l') ∧ (S.set l (.lst xs'))[l']? = some o := fun l' o n g => ⟨n, by
    rw [List.getElem?_set_ne (fun e => n (.inr (by rw [← e]; exact hA)))]; exact g⟩
  have iv : i < ven.length := (List.getElem?_eq_some_iff.mp hi).1
  refine ⟨by simp [h.len], fun j v e => ?_, fun j v e => ?_, fun j k v w l' x1 x2 y1 y2 => ?_, fun k z => ?_, h.b0, by simp [h.bS]⟩
  · by_cases hij : i = j
    · subst hij
      rw [List.getElem?_set_self iv] at e
      cases e
      exact ⟨l, xs', us', hl, rfl, hA, List.getElem?_set_self hlt, r.mono mv⟩
    · rw [List.getElem?_set_ne hij] at e
      obtain ⟨l', ys, vs, q1, q2, q3, q4, q5⟩ := h.own j v e
      have hne : l ≠ l' := fun z => hij (by subst z; exact h.inj i j _ _ l hi e hl q1)
      exact ⟨l', ys, vs, q1, q2, q3, by rw [List.getElem?_set_ne hne]; exact q4, q5.mono mv⟩
  · by_cases hij : i = j
    · subst hij
      rw [List.getElem?_set_self iv] at e
      cases e
    · rw [List.getElem?_set_ne hij] at e
      obtain ⟨d, q1, q2⟩ := h.get j v e
      exact ⟨d, q1, q2.mono mv⟩
  · have back : ∀ {j : Nat} {v : U}, (ven.set i (some (true, .lst us')))[j]? = some (some (true, v)) → ∃ v', ven[j]? = some (some (true, v')) := fun {j v} x => by
      by_cases hij : i = j
      · subst hij; exact ⟨_, hi⟩
      · rw [List.getElem?_set_ne hij] at x; exact ⟨v, x⟩
    obtain ⟨v', x1'⟩ := back x1
    obtain ⟨w', x2'⟩ := back x2
    exact h.inj j k v' w' l' x1' x2' y1 y2
  · have := h.bA k z; simpa using this
theorem Fra.mut {l : Nat} {o : Ob} (hA : A l) : Fra A S A (S.set l o) := ⟨by simp, fun l' o' n g => by rw [List.getElem?_set_ne (fun e => n (by rw [← e]; exact hA))]; exact g, fun _ h => .inl h⟩
theorem ownV_ok {i : Nat} {us : List U} (e : ownV ven i = .ok us) : ven[i]? = some (some (true, U.lst us)) := by
  unfold ownV at e
  split at e
  · rename_i hu; cases e; exact hu
  · cases e
theorem toI_ok {B : Nat → Prop} {d : D} {u : U} {x : Int} (r : Rd B S d u) (e : toI u = .ok x) : d = .int x := by
  cases r <;> first | (cases e; done) | skip
  cases e; rfl
def FlowOk (A0 A : Nat → Prop) (b : Nat) (S : Store) : VF → NL.Flow → Store → Prop
  | .nx v, .nx e, S' => ∃ A', EnvOk A0 A' b S' v e ∧ Fra A S A' S'
  | .brk v, .brk e, S' => ∃ A', EnvOk A0 A' b S' v e ∧ Fra A S A' S'
  | .cnt v, .cnt e, S' => ∃ A', EnvOk A0 A' b S' v e ∧ Fra A S A' S'
  | .ret w u, .ret d, S' => (∃ A', Fra A S A' S') ∧ Rd A0 S' d u ∧ (w = true → FrD A0 b S' d u)
  | _, _, _ => False
theorem FlowOk.trans {f : VF} {g : NL.Flow} (a : Fra A S A1 S1) (h : FlowOk A0 A1 b S1 f g S2) : FlowOk A0 A b S f g S2 := by
  cases f <;> cases g <;> first | (exact h.elim) | skip
  · obtain ⟨A', h1, h2⟩ := h; exact ⟨A', h1, a.trans h2⟩
  · obtain ⟨A', h1, h2⟩ := h; exact ⟨A', h1, a.trans h2⟩
  · obtain ⟨A', h1, h2⟩ := h; exact ⟨A', h1, a.trans h2⟩
  · obtain ⟨⟨A', h1⟩, h2⟩ := h; exact ⟨⟨A', a.trans h1⟩, h2⟩
end
theorem lift_ok {α : Type} {en : NL.Env} {m : M α} {k : α → M NL.Flow} {S S1 : Store} {a : α} (h : m S = .ok a S1) : lift en m k S = k a S1 := by
  unfold lift; rw [h]
section
variable {fr : Nat → Bool} {C : Nat → List D → M D} {CV : Nat → List U → VR U}
abbrev ExOk (A0 : Nat → Prop) (b : Nat) (g : VEnv → VR VF) (m : NL.Env → M NL.Flow) : Prop := ∀ {A : Nat → Prop} {S : Store} {ven : VEnv} {en : NL.Env} {f : VF}, EnvOk A0 A b S ven en → g ven = .ok f → ∃ fl S', m en S = .ok fl S' ∧ FlowOk A0 A b S f fl S'
theorem for_ok {A0 : Nat → Prop} {b : Nat} {tg : Tg} {g : VEnv → VR VF} {m : NL.Env → M NL.Flow} (hb : ExOk A0 b g m) {ck : Option (Nat × Ob)} : ∀ {us : List U} {ds : List D} {A : Nat → Prop} {S : Store} {ven : VEnv} {en : NL.Env} {f : VF}, EnvOk A0 A b S ven en → Rds (fun k => A0 k ∨ A k) S ds us → CkOkV (fun k => A0 k ∨ A k) ck S → forV (bindV tg) g us ven = .ok f →
    ∃ fl S', forL (ckD ck) (fun d en' => bindT tg d en') m ds en S = .ok fl S' ∧ FlowOk A0 A b S f fl S'
  | [], _, A, S, ven, en, f, h, .nil, k, e => by
    cases e
    refine ⟨.nx en, S, ?_, A, h, .refl⟩
    unfold forL
    exact lift_ok (ck_run k)
  | u :: us, d :: ds, A, S, ven, en, f, h, .cons a r, k, e => by
    unfold forV at e
    obtain ⟨ven1, e1, e⟩ := VR.bind_ok e
    obtain ⟨f1, e2, e⟩ := VR.bind_ok e
    obtain ⟨en1, q1, h1⟩ := bindE_ok h a e1
    obtain ⟨fl1, S1, q2, o1⟩ := hb h1 e2
    have step : forL (ckD ck) (fun d en' => bindT tg d en') m (d :: ds) en S = (m en1 >>= fun f => match f with
        | .nx en' => forL (ckD ck) (fun d en' => bindT tg d en') m ds en'
        | .cnt en' => forL (ckD ck) (fun d en' => bindT tg d en') m ds en'
        | .brk en' => pure (.nx en')
        | f => pure f) S := by
      rw [forL]
      exact lift_ok (by rw [bind_eq, ck_run k]; exact q1)
    rw [step, bind_eq, q2]
    have go : ∀ {A1 : Nat → Prop} {v : VEnv} {en2 : NL.Env}, EnvOk A0 A1 b S1 v en2 → Fra A S A1 S1 → forV (bindV tg) g us v = .ok f → ∃ fl S', forL (ckD ck) (fun d en' => bindT tg d en') m ds en2 S1 = .ok fl S' ∧ FlowOk A0 A b S f fl S' := fun {A1 v en2} h2 fa e => by
      have mv := fa.mono h.b0S
      have ck2 : CkOkV (fun k => A0 k ∨ A1 k) ck S1 := by
        clear step
        cases ck with
        | none => trivial
        | some p => exact ⟨(mv _ _ k.2 k.1).2, (mv _ _ k.2 k.1).1⟩
      obtain ⟨fl, S', q, o⟩ := for_ok hb (us := us) h2 (r.mono mv) ck2 e
      exact ⟨fl, S', q, .trans fa o⟩
    cases f1 <;> cases fl1 <;> first | (exact o1.elim) | skip
    · obtain ⟨A1, h2, fa⟩ := o1
      exact go h2 fa e
    · obtain ⟨A1, h2, fa⟩ := o1
      cases e
      exact ⟨_, S1, rfl, A1, h2, fa⟩
    · obtain ⟨A1, h2, fa⟩ := o1
      exact go h2 fa e
    · cases e
      exact ⟨_, S1, rfl, o1⟩
theorem whl_ok {A0 : Nat → Prop} {b : Nat} {cV : VEnv → VR Bool} {c : NL.Env → M Bool} {g : VEnv → VR VF} {m : NL.Env → M NL.Flow}
    (hc : ∀ {A : Nat → Prop} {S : Store} {ven : VEnv} {en : NL.Env} {t : Bool}, EnvOk A0 A b S ven en → cV ven = .ok t → ∃ S1, c en S = .ok t S1 ∧ Gw S S1) (hb : ExOk A0 b g m) :
    ∀ {n : Nat} {A : Nat → Prop} {S : Store} {ven : VEnv} {en : NL.Env} {f : VF}, EnvOk A0 A b S ven en → whlV cV g n ven = .ok f → ∃ fl S', whlL c m n en S = .ok fl S' ∧ FlowOk A0 A b S f fl S'
  | 0, A, S, ven, en, f, h, e => by cases e
  | n + 1, A, S, ven, en, f, h, e => by
    unfold whlV at e
    obtain ⟨t, e1, e⟩ := VR.bind_ok e
    obtain ⟨S1, q1, w1⟩ := hc h e1
    rw [whlL, lift_ok q1]
    have h1 := h.gw w1
    by_cases ht : t = true
    · rw [if_pos ht] at e ⊢
      obtain ⟨f1, e2, e⟩ := VR.bind_ok e
      obtain ⟨fl1, S2, q2, o1⟩ := hb h1 e2
      rw [bind_eq, q2]
      cases f1 <;> cases fl1 <;> first | (exact o1.elim) | skip
      · obtain ⟨A1, h2, fa⟩ := o1
        obtain ⟨fl, S', q, o⟩ := whl_ok hc hb h2 e
        exact ⟨fl, S', q, .trans ((Fra.gw w1).trans fa) o⟩
      · obtain ⟨A1, h2, fa⟩ := o1
        cases e
        exact ⟨_, S2, rfl, A1, h2, (Fra.gw w1).trans fa⟩
      · obtain ⟨A1, h2, fa⟩ := o1
        obtain ⟨fl, S', q, o⟩ := whl_ok hc hb h2 e
        exact ⟨fl, S', q, .trans ((Fra.gw w1).trans fa) o⟩
      · cases e
        exact ⟨_, S2, rfl, .trans (.gw w1) o1⟩
    · rw [if_neg ht] at e ⊢
      cases e
      exact ⟨_, S1, rfl, A, h1, .gw w1⟩
theorem evE_at (hC : CallOk fr C CV) {A0 A : Nat → Prop} {b : Nat} {S : Store} {ven : VEnv} {en : NL.Env} (h : EnvOk A0 A b S ven en) {e : E} {u : U} (q : evV CV e ven = .ok u) : OkB (freshE fr e) (fun k => A0 k ∨ Oth A0 A (fvE e) ven en k) S (evE C e en S) u :=
  ev_ok hC e (h.bnd _) (h.envR _) q
mutual
theorem ex_ok (hC : CallOk fr C CV) {A0 : Nat → Prop} {b : Nat} : ∀ (s : NL.St), ExOk A0 b (exV fr CV s) (exS C s)
  | .set i e, A, S, ven, en, f, h, q => by
    unfold exV at q
    obtain ⟨u, q1, q⟩ := VR.bind_ok q
    cases q
    obtain ⟨d, S1, A1, g1, g2, g3⟩ := set_ev h (evE_at hC h q1) i
    refine ⟨.nx (en.set i (some d)), S1, ?_, A1, g2, g3⟩
    unfold exS
    exact lift_ok g1
  | .unp is e, A, S, ven, en, f, h, q => by
    unfold exV at q
    obtain ⟨u, q1, q⟩ := VR.bind_ok q
    obtain ⟨us, q2, q⟩ := VR.bind_ok q
    cases q
    obtain ⟨d, S1, g1, w1, r1, _⟩ := evE_at hC h q1
    obtain ⟨ds, g2, r2⟩ := unp_ok r1 q2
    obtain ⟨A1, e1, f1, k1⟩ := leaks_ok h us (fvE e)
    refine ⟨.nx (NL.setAll en is ds), S1, ?_, A1, (e1.gw w1).setAll (k1 r2), f1.trans (.gw w1)⟩
    unfold exS
    exact lift_ok (by rw [bind_eq, g1]; exact g2)
  | .setIx o i e, A, S, ven, en, f, h, q => by
    cases o <;> unfold exV at q <;> first | (cases q; done) | skip
    rename_i j
    obtain ⟨v, q1, q⟩ := VR.bind_ok q
    obtain ⟨y, q2, q⟩ := VR.bind_ok q
    obtain ⟨k, q3, q⟩ := VR.bind_ok q
    obtain ⟨us, q4, q⟩ := VR.bind_ok q
    split at q
    · rename_i n hn
      cases q
      obtain ⟨dv, S1, g1, w1, r1, _⟩ := evE_at hC h q1
      obtain ⟨dy, S2, g2, w2, r2, _⟩ := evE_at hC (h.gw w1) q2
      have hk := toI_ok r2 q3
      subst hk
      obtain ⟨A1, e1, f1, k1⟩ := leak_ok h false v (fvE e)
      have e2 := (e1.gw w1).gw w2
      have hi := ownV_ok q4
      obtain ⟨l, xs, us', p1, p2, p3, p4, p5⟩ := e2.own j _ hi
      cases p2
      refine ⟨.nx en, S2.set l (.lst (xs.set n dv)), ?_, A1, e2.mut hi p1 p3 (lt_of_get p4) (p5.set ((k1.sh rfl r1).gw w2) n), (f1.trans ((Fra.gw w1).trans (.gw w2))).trans (.mut p3)⟩
      unfold exS
      refine lift_ok (a := ()) ?_
      rw [bind_eq, g1]
      show (evE C (.var j) en >>= fun x => evE C i en >>= fun y => setIxD x y dv) S1 = _
      have ev : evE C (.var j) en = pure (.ref l) := by unfold evE; rw [p1]
      rw [ev]
      show (evE C i en >>= fun y => setIxD (.ref l) y dv) S1 = _
      rw [bind_eq, g2]
      show (getM l >>= fun xs => match ixN xs.length k with | some j => (fun S => R.ok () (S.set l (.lst (xs.set j dv))) : M Unit) | none => die) S2 = _
      have gm : getM l S2 = .ok xs S2 := by unfold getM; rw [p4]
      rw [bind_eq, gm]
      show (match ixN xs.length k with | some j => (fun S => R.ok () (S.set l (.lst (xs.set j dv))) : M Unit) | none => die) S2 = _
      rw [p5.length, hn]
    · cases q
  | .aug i e, A, S, ven, en, f, h, q => by
    unfold exV at q
    obtain ⟨x, q1, q⟩ := VR.bind_ok q
    obtain ⟨y, q2, q⟩ := VR.bind_ok q
    obtain ⟨z, q3, q⟩ := VR.bind_ok q
    cases q
    have hx : ∃ w, ven[i]? = some (some (w, U.int x)) := by
      unfold intV at q1
      split at q1
      · rename_i w _ hx; cases q1; exact ⟨w, hx⟩
      · cases q1
    obtain ⟨w, hx⟩ := hx
    have ex : en[i]? = some (some (D.int x)) := by
      cases w with
      | true => obtain ⟨l, xs, us, _, p2, _⟩ := h.own i _ hx; cases p2
      | false =>
        obtain ⟨d, p1, p2⟩ := h.get i _ hx
        cases p2
        exact p1
    obtain ⟨d, S1, g1, w1, r1, _⟩ := evE_at hC h q2
    have hz := toI_ok r1 q3
    subst hz
    refine ⟨.nx (en.set i (some (.int (x + z)))), S1, ?_, A, (h.gw w1).set (.int _) i, .gw w1⟩
    unfold exS
    rw [ex]
    exact lift_ok g1
  | .expr e, A, S, ven, en, f, h, q => by
    unfold exV at q
    obtain ⟨u, q1, q⟩ := VR.bind_ok q
    cases q
    obtain ⟨d, S1, g1, w1, r1, _⟩ := evE_at hC h q1
    refine ⟨.nx en, S1, ?_, A, h.gw w1, .gw w1⟩
    unfold exS
    exact lift_ok g1
  | .app i e, A, S, ven, en, f, h, q => by
    unfold exV at q
    obtain ⟨us0, q0, q⟩ := VR.bind_ok q
    obtain ⟨u, q1, q⟩ := VR.bind_ok q
    obtain ⟨us, q2, q⟩ := VR.bind_ok q
    split at q
    · rename_i hlen
      cases q
      have hi0 := ownV_ok q0
      obtain ⟨l0, xs0, us0', p1, _, _, p4, _⟩ := h.own i _ hi0
      obtain ⟨d, S1, g1, w1, r1, _⟩ := evE_at hC h q1
      obtain ⟨A1, e1, f1, k1⟩ := leak_ok h false u (fvE e)
      have e2 := e1.gw w1
      have hi := ownV_ok q2
      obtain ⟨l, xs, us', z1, z2, z3, z4, z5⟩ := e2.own i _ hi
      cases z2
      rw [p1] at z1
      cases z1
      refine ⟨.nx en, S1.set l0 (.lst (xs ++ [d])), ?_, A1, e2.mut hi p1 z3 (lt_of_get z4) (z5.append (.cons (k1.sh rfl r1) .nil)), (f1.trans (.gw w1)).trans (.mut z3)⟩
      unfold exS
      rw [p1]
      have gm : getM l0 S = .ok xs0 S := by unfold getM; rw [p4]
      have pu : pushD l0 d S1 = .ok () (S1.set l0 (.lst (xs ++ [d]))) := by
        unfold pushD
        rw [z4]
        exact if_pos (by rw [z5.length]; exact hlen)
      show lift en (getM l0 >>= fun _ => evE C e en) _ S = _
      rw [lift_ok (m := getM l0 >>= fun _ => evE C e en) (by rw [bind_eq, gm]; exact g1)]
      exact lift_ok pu
    · cases q
  | .ret e, A, S, ven, en, f, h, q => by
    unfold exV at q
    obtain ⟨u, q1, q⟩ := VR.bind_ok q
    cases q
    obtain ⟨d, S1, g1, w1, r1, k1⟩ := evE_at hC h q1
    refine ⟨.ret d, S1, ?_, ⟨A, .gw w1⟩, r1.mono (fun l o n g => ⟨fun z => n (.inl z), g⟩), fun hw => ?_⟩
    · unfold exS
      exact lift_ok g1
    · rw [Bool.or_eq_true, Bool.and_eq_true] at hw
      rcases hw with ⟨hf, hl⟩ | ho
      · have hu : ∃ us, u = .lst us := by cases u <;> first | (exact absurd hl Bool.false_ne_true) | exact ⟨_, rfl⟩
        obtain ⟨l, xs, us, y1, y2, y3, y4, y5⟩ := k1 hf hu
        refine ⟨l, xs, us, y1, Nat.le_trans h.bS y2, y3, y4, y5.mono fun k o n g => ⟨fun z => n ?_, g⟩⟩
        rcases z with z | z
        · exact .inl (.inl z)
        · exact .inr z
      · cases e <;> first | (exact absurd ho Bool.false_ne_true) | skip
        rename_i i
        have ho' : ∃ v, ven[i]? = some (some (true, v)) := by
          unfold ownR at ho
          dsimp only at ho
          cases hp : ven[i]? with
          | none => rw [hp] at ho; exact absurd ho Bool.false_ne_true
          | some p =>
            cases p with
            | none => rw [hp] at ho; exact absurd ho Bool.false_ne_true
            | some p =>
              rw [hp] at ho
              obtain ⟨w, v⟩ := p
              have ho : w = true := ho
              subst ho
              exact ⟨v, rfl⟩
        obtain ⟨v, hp⟩ := ho'
        · skip
          obtain ⟨l, xs, us, y1, y2, y3, y4, y5⟩ := h.own i _ hp
          have hv : evV CV (.var i) ven = .ok v := by unfold evV getV; rw [hp]
          rw [hv] at q1
          cases q1
          have hd : evE C (.var i) en S = .ok (.ref l) S := by unfold evE; rw [y1]; rfl
          rw [hd] at g1
          cases g1
          refine ⟨l, xs, us, rfl, (h.bA l y3).1, y2, y4, y5.mono fun k o n g => ⟨fun z => n ?_, g⟩⟩
          rcases z with z | z
          · exact .inl z
          · subst z; exact .inr y3
  | .ret0, A, S, ven, en, f, h, q => by
    unfold exV at q
    cases q
    exact ⟨.ret .non, S, by unfold exS; rfl, ⟨A, .refl⟩, .non, fun z => by cases z⟩
  | .ifs c a b', A, S, ven, en, f, h, q => by
    unfold exV at q
    obtain ⟨x, q1, q⟩ := VR.bind_ok q
    obtain ⟨t, q2, q⟩ := VR.bind_ok q
    obtain ⟨d, S1, g1, w1, r1, _⟩ := evE_at hC h q1
    have lc : lift en (evE C c en >>= truD) (fun t => if t = true then exB C a en else exB C b' en) S = (if t = true then exB C a en else exB C b' en) S1 := lift_ok (by rw [bind_eq, g1]; exact tru_ok r1 q2)
    unfold exS
    rw [lc]
    by_cases ht : t = true
    · rw [if_pos ht] at q ⊢
      obtain ⟨fl, S', p1, p2⟩ := exs_ok hC a (h.gw w1) q
      exact ⟨fl, S', p1, .trans (.gw w1) p2⟩
    · rw [if_neg ht] at q ⊢
      obtain ⟨fl, S', p1, p2⟩ := exs_ok hC b' (h.gw w1) q
      exact ⟨fl, S', p1, .trans (.gw w1) p2⟩
  | .for_ tg (.val e) b', A, S, ven, en, f, h, q => by
    unfold exV at q
    obtain ⟨u, q1, q⟩ := VR.bind_ok q
    obtain ⟨p, q2, q⟩ := VR.bind_ok q
    obtain ⟨d, S1, g1, w1, r1, k1⟩ := evE_at hC h q1
    have hit : ∃ ds ck, iterD d S1 = .ok (ds, ck) S1 ∧ Rds (fun k => A0 k ∨ Oth A0 A (fvE e) ven en k) S1 ds p.1 ∧ CkOkV (fun k => A0 k ∨ Oth A0 A (fvE e) ven en k) ck S1 ∧ (p.2 = false → ck = none) ∧ (∀ l o, ck = some (l, o) → d = .ref l) := by
      unfold iterU at q2
      split at q2
      · cases r1
        rename_i r1
        cases q2
        exact ⟨_, none, rfl, r1, trivial, fun _ => rfl, fun l o z => by cases z⟩
      · split at q2
        · rename_i hx
          cases q2
          obtain ⟨l, o, rfl, y1, y2, y3⟩ := at_sq r1 hx
          refine ⟨items o, some (l, o), ?_, y3, ⟨y1, y2⟩, fun z => (by cases z), fun l' o' z => (by cases z; rfl)⟩
          show (match S1[l]? with | some o => R.ok (items o, some (l, o)) S1 | none => .stuck) = _
          rw [y1]
        · cases q2
    obtain ⟨ds, ck, i1, i2, i3, i4, i5⟩ := hit
    have li : ∀ k : List D × Option (Nat × Ob) → M NL.Flow, lift en (evIt C (.val e) en) k S = k (ds, ck) S1 := fun k => lift_ok (by unfold evIt; rw [bind_eq, g1]; exact i1)
    unfold exS
    rw [li]
    by_cases hk : ((!p.2 || (freshE fr e && isL u)) && noLs p.1) = true
    · rw [if_pos hk] at q
      rw [Bool.and_eq_true, Bool.or_eq_true] at hk
      have hck : CkOkV (fun k => A0 k ∨ A k) ck S1 := by
        rcases hk.1 with hp | hf
        · rw [i4 (by simpa using hp)]; trivial
        · rw [Bool.and_eq_true] at hf
          cases ck with
          | none => trivial
          | some c =>
            have hu : ∃ us, u = .lst us := by
              have := hf.2
              cases u <;> first | (exact absurd this Bool.false_ne_true) | exact ⟨_, rfl⟩
            obtain ⟨l, xs, us, y1, y2, y3, y4, y5⟩ := k1 hf.1 hu
            have := i5 c.1 c.2 rfl
            rw [y1] at this
            cases this
            refine ⟨i3.1, ?_⟩
            rintro (z | z)
            · have := h.b0S _ z; omega
            · have := (h.bA _ z).2; omega
      obtain ⟨fl, S', p1, p2⟩ := for_ok (fun {A S ven en f} => exs_ok hC b') (h.gw w1) (i2.of_noL hk.2) hck q
      exact ⟨fl, S', p1, .trans (.gw w1) p2⟩
    · rw [if_neg hk] at q
      obtain ⟨fl, S', p1, p2⟩ := for_ok (fun {A S ven en f} => exs_ok hC b') ((h.unown (fvE e)).gw w1) i2 i3 q
      exact ⟨fl, S', p1, .trans (Fra.oth.trans (.gw w1)) p2⟩
  | .for_ tg (.rng1 c) b', A, S, ven, en, f, h, q => by
    unfold exV at q
    obtain ⟨p, q1, q⟩ := VR.bind_ok q
    unfold evVt at q1
    obtain ⟨y, q2, q1⟩ := VR.bind_ok q1
    obtain ⟨xs, q3, q1⟩ := VR.bind_ok q1
    cases q1
    obtain ⟨d, S1, g1, w1, r1, k1⟩ := evE_at hC h q2
    obtain ⟨ds, i1, i2⟩ := rng_ok (.int 0) r1 q3
    have li : ∀ k : List D × Option (Nat × Ob) → M NL.Flow, lift en (evIt C (.rng1 c) en) k S = k (ds, none) S1 := fun k => lift_ok (by
      unfold evIt
      rw [bind_eq, g1]
      show (rngD (.int 0) d >>= fun xs => (pure (xs, none) : M (List D × Option (Nat × Ob)))) S1 = _
      rw [bind_eq, i1]; rfl)
    unfold exS
    rw [li]
    obtain ⟨fl, S', p1, p2⟩ := for_ok (fun {A S ven en f} => exs_ok hC b') (h.gw w1) (ck := none) (i2 _ _) trivial q
    exact ⟨fl, S', p1, .trans (.gw w1) p2⟩
  | .for_ tg (.rng2 c c') b', A, S, ven, en, f, h, q => by
    unfold exV at q
    obtain ⟨p, q1, q⟩ := VR.bind_ok q
    unfold evVt at q1
    obtain ⟨x, q0, q1⟩ := VR.bind_ok q1
    obtain ⟨y, q2, q1⟩ := VR.bind_ok q1
    obtain ⟨xs, q3, q1⟩ := VR.bind_ok q1
    cases q1
    obtain ⟨d0, S0, g0, w0, r0, _⟩ := evE_at hC h q0
    obtain ⟨d, S1, g1, w1, r1, _⟩ := evE_at hC (h.gw w0) q2
    obtain ⟨ds, i1, i2⟩ : ∃ ds, rngD d0 d S1 = .ok ds S1 ∧ ∀ B' S', Rds B' S' ds xs := by
      unfold rngU at q3
      split at q3
      · cases r0; cases r1
        exact rng_ok (B := fun _ => False) (.int _) (.int _) (show rngU _ _ = _ from q3)
      · cases q3
    have li : ∀ k : List D × Option (Nat × Ob) → M NL.Flow, lift en (evIt C (.rng2 c c') en) k S = k (ds, none) S1 := fun k => lift_ok (by
      unfold evIt
      rw [bind_eq, g0]
      show (evE C c' en >>= fun y => rngD d0 y >>= fun xs => (pure (xs, none) : M (List D × Option (Nat × Ob)))) S0 = _
      rw [bind_eq, g1]
      show (rngD d0 d >>= fun xs => (pure (xs, none) : M (List D × Option (Nat × Ob)))) S1 = _
      rw [bind_eq, i1]; rfl)
    unfold exS
    rw [li]
    obtain ⟨fl, S', p1, p2⟩ := for_ok (fun {A S ven en f} => exs_ok hC b') ((h.gw w0).gw w1) (ck := none) (i2 _ _) trivial q
    exact ⟨fl, S', p1, .trans ((Fra.gw w0).trans (.gw w1)) p2⟩
  | .whl c b', A, S, ven, en, f, h, q => by
    unfold exV at q
    unfold exS
    refine whl_ok (fun {A S ven en t} h q => ?_) (fun {A S ven en f} => exs_ok hC b') h q
    obtain ⟨x, q1, q⟩ := VR.bind_ok q
    obtain ⟨d, S1, g1, w1, r1, _⟩ := evE_at hC h q1
    exact ⟨S1, by rw [bind_eq, g1]; exact tru_ok r1 q, w1⟩
  | .brk, A, S, ven, en, f, h, q => by
    unfold exV at q; cases q
    exact ⟨.brk en, S, by unfold exS; rfl, A, h, .refl⟩
  | .cnt, A, S, ven, en, f, h, q => by
    unfold exV at q; cases q
    exact ⟨.cnt en, S, by unfold exS; rfl, A, h, .refl⟩
  | .pass, A, S, ven, en, f, h, q => by
    unfold exV at q; cases q
    exact ⟨.nx en, S, by unfold exS; rfl, A, h, .refl⟩
  | .dead, A, S, ven, en, f, h, q => by unfold exV at q; cases q
theorem exs_ok (hC : CallOk fr C CV) {A0 : Nat → Prop} {b : Nat} : ∀ (s : Sts), ExOk A0 b (exVB fr CV s) (exB C s)
  | .nil, A, S, ven, en, f, h, q => by
    unfold exVB at q; cases q
    exact ⟨.nx en, S, by unfold exB; rfl, A, h, .refl⟩
  | .cons s r, A, S, ven, en, f, h, q => by
    unfold exVB at q
    obtain ⟨f1, q1, q⟩ := VR.bind_ok q
    obtain ⟨fl1, S1, g1, o1⟩ := ex_ok hC s h q1
    unfold exB
    rw [bind_eq, g1]
    cases f1 <;> cases fl1 <;> first | (exact o1.elim) | skip
    · obtain ⟨A1, h2, fa⟩ := o1
      obtain ⟨fl, S', p1, p2⟩ := exs_ok hC r h2 q
      exact ⟨fl, S', p1, .trans fa p2⟩
    · cases q; exact ⟨_, S1, rfl, o1⟩
    · cases q; exact ⟨_, S1, rfl, o1⟩
    · cases q; exact ⟨_, S1, rfl, o1⟩
end
theorem run_ok (hC : CallOk fr C CV) {w : Bool} {fn : Fn} {us : List U} {u : U} (q : runV fr CV w fn us = .ok u) {B : Nat → Prop} {S : Store} {ds : List D} (hB : Bnd B S) (r : Rds B S ds us) : OkB w B S (runF C fn ds S) u := by
  unfold runV at q
  split at q
  · rename_i hlen
    have h : EnvOk B (fun _ => False) S.length S (us.map (fun u => some (false, u)) ++ List.replicate (fn.nv - fn.np) none) (ds.map some ++ List.replicate (fn.nv - fn.np) none) := by
      have at_ : ∀ {i : Nat} {w : Bool} {v : U}, (us.map (fun u => some (false, u)) ++ List.replicate (fn.nv - fn.np) none)[i]? = some (some (w, v)) → w = false ∧ us[i]? = some v := fun {i w v} e => by
        by_cases hi : i < us.length
        · rw [List.getElem?_append_left (by simpa using hi), List.getElem?_map] at e
          cases hu : us[i]? with
          | none => rw [hu] at e; cases e
          | some x => rw [hu] at e; cases e; exact ⟨rfl, rfl⟩
        · rw [List.getElem?_append_right (by simpa using Nat.le_of_not_lt hi), List.getElem?_replicate] at e
          split at e <;> cases e
      refine ⟨by simp [r.length], fun i v e => ?_, fun i v e => ?_, fun i j v v' l e _ _ _ => ?_, fun l z => z.elim, hB, Nat.le_refl _⟩
      · obtain ⟨z, _⟩ := at_ e; cases z
      · obtain ⟨_, e'⟩ := at_ e
        obtain ⟨d, h1, h2⟩ := r.get e'
        refine ⟨d, ?_, h2.mono fun l o n g => ⟨fun z => z.elim n id, g⟩⟩
        rw [List.getElem?_append_left (by simpa using (List.getElem?_eq_some_iff.mp h1).1), List.getElem?_map, h1]; rfl
      · obtain ⟨z, _⟩ := at_ e; cases z
    have toGw : ∀ {A' : Nat → Prop} {S' : Store}, Fra (fun _ => False) S A' S' → Gw S S' := fun f => Gw_of (fun k hk => by
      rw [f.get k _ (fun z => z) (List.getElem?_eq_getElem hk), List.getElem?_eq_getElem hk]) f.len
    have hd : ds.length = fn.np := by rw [r.length]; exact hlen
    have un : ∀ {g : NL.Flow} {S' : Store}, exB C fn.body (ds.map some ++ List.replicate (fn.nv - fn.np) none) S = .ok g S' → runF C fn ds S = (match (R.ok g S' : R NL.Flow) with
        | .ok (.nx _) S => .ok .non S
        | .ok (.ret d) S => .ok d S
        | .ok (.exc c d _) S => .exc c d S
        | _ => .stuck) := fun e => by
      unfold runF
      rw [if_pos hd, e] <;> rfl
    split at q
    · rename_i v hv
      cases q
      obtain ⟨fl, S', g1, o1⟩ := exs_ok hC fn.body h hv
      cases fl <;> first | (exact o1.elim) | skip
      obtain ⟨A', h1, f1⟩ := o1
      rw [un g1]
      exact ⟨.non, S', rfl, toGw f1, .non, fun _ z => by obtain ⟨us, z⟩ := z; cases z⟩
    · rename_i o v hv
      split at q
      · cases q
      · rename_i hw
        cases q
        obtain ⟨fl, S', g1, o1⟩ := exs_ok hC fn.body h hv
        cases fl <;> first | (exact o1.elim) | skip
        obtain ⟨⟨A', f1⟩, h1, h2⟩ := o1
        rw [un g1]
        refine ⟨_, S', rfl, toGw f1, h1, fun hw2 ⟨us, hu⟩ => h2 ?_⟩
        subst hw2 hu
        cases o with
        | true => rfl
        | false => exact absurd rfl hw
    · cases q
    · cases q
  · cases q
theorem call_ok {T : Nat → Option Fn} : ∀ (n : Nat), CallOk fr (callT T n) (callV T fr n)
  | 0, f, us, u, h, B, S, ds, hB, r => by unfold callV at h; cases h
  | n + 1, f, us, u, h, B, S, ds, hB, r => by
    unfold callV at h
    unfold callT
    cases hT : T f with
    | none => rw [hT] at h; cases h
    | some fn =>
      rw [hT] at h
      exact run_ok (call_ok n) h hB r
end
/-- THE END, over trees -/
theorem law_of {T : Nat → Option Fn} {fr : Nat → Bool} {n i : Nat} {ns : List Int} (h : callV T fr n i [.frz (ns.map U.int)] = .ok (.bl true)) : ∃ S', callT T n i [.ref 0] [.frz (ns.map D.int)] = .ok (.bl true) S' := by
  have ri : ∀ ks : List Int, Rds (fun _ => False) [Ob.frz (ns.map D.int)] (ks.map D.int) (ks.map U.int) := fun ks => by
    induction ks with
    | nil => exact .nil
    | cons k ks ih => exact .cons (.int k) ih
  obtain ⟨d, S', h1, h2, h3, _⟩ := call_ok n i _ _ h (fun _ => False) [Ob.frz (ns.map D.int)] [.ref 0] (fun l z => z.elim) (.cons (.frz (fun z => z) rfl (ri ns)) .nil)
  cases h3
  exact ⟨S', h1⟩
end VL

/-! Rules by which a text is run on symbols, over trees. -/
namespace VL
open PySem PySem.Spec PyProof.Rows L2 NL
theorem nrf {α : Sort _} {a b : α} (h : a = b) : a = b := h
theorem bind_as {α β γ : Type} (r : VR α) (f : α → VR β) (g : β → VR γ) : (r.bind f).bind g = r.bind fun x => (f x).bind g := by cases r <;> rfl
theorem bind_id {α : Type} (r : VR α) : r.bind VR.ok = r := by cases r <;> rfl
theorem ok_bi {α β : Type} {a : α} {k : α → VR β} : (VR.ok a).bind k = k a := nrf rfl
theorem bi_of {α β : Type} {r : VR α} {a : α} {k : α → VR β} (e : r = .ok a) : r.bind k = k a := by rw [e]; rfl
def getK {β : Type} (en : VEnv) (i : Nat) (k : U → VR β) : VR β := match en[i]? with
  | some (some p) => k p.2
  | _ => .stuck
def setK {β : Type} (en : VEnv) (i : Nat) (w : Bool) (u : U) (k : VEnv → VR β) : VR β := k (en.set i (some (w, u)))
def setsK {β : Type} (en : VEnv) (is : List Nat) (us : List U) (k : VEnv → VR β) : VR β := k (setAllV en is us)
def putK {β : Type} (fl : Bool) (is : List Nat) (i : Nat) (u : U) (en : VEnv) (k : VEnv → VR β) : VR β := k ((leak (fl && isL u) u is en).set i (some (fl && isL u, u)))
def ownK {β : Type} (en : VEnv) (i : Nat) (k : List U → VR β) : VR β := (ownV en i).bind k
class NoL (u : U) : Prop where
  no : noL u = true
class NoLs (us : List U) : Prop where
  no : noLs us = true
instance nl_non : NoL .non := ⟨by unfold noL; rfl⟩
instance nl_bl {b : Bool} : NoL (.bl b) := ⟨by unfold noL; rfl⟩
instance nl_int {i : Int} : NoL (.int i) := ⟨by unfold noL; rfl⟩
instance nl_str {x : Str} : NoL (.str x) := ⟨by unfold noL; rfl⟩
instance nl_tup {us : List U} [h : NoLs us] : NoL (.tup us) := ⟨by unfold noL; exact h.no⟩
instance nls_nil : NoLs [] := ⟨by unfold noLs; rfl⟩
instance nls_cons {u : U} {us : List U} [h : NoL u] [k : NoLs us] : NoLs (u :: us) := ⟨by unfold noLs; rw [h.no, k.no]; rfl⟩
theorem noLs_all {us : List U} : noLs us = true ↔ ∀ u ∈ us, noL u = true := by
  induction us with
  | nil => exact ⟨fun _ _ h => (by cases h), fun _ => by unfold noLs; rfl⟩
  | cons x us ih =>
    unfold noLs
    rw [Bool.and_eq_true, ih]
    constructor
    · rintro ⟨h1, h2⟩ u hu
      rcases List.mem_cons.mp hu with rfl | hu
      · exact h1
      · exact h2 u hu
    · exact fun h => ⟨h x List.mem_cons_self, fun u hu => h u (List.mem_cons_of_mem _ hu)⟩
instance nls_map {α : Type} {f : α → U} {xs : List α} [h : ∀ x, NoL (f x)] : NoLs (xs.map f) := ⟨noLs_all.mpr fun u hu => by
  obtain ⟨x, _, rfl⟩ := List.mem_map.mp hu
  exact (h x).no⟩
instance nls_app {xs ys : List U} [h : NoLs xs] [k : NoLs ys] : NoLs (xs ++ ys) := ⟨noLs_all.mpr fun u hu => by
  rcases List.mem_append.mp hu with hu | hu
  · exact noLs_all.mp h.no u hu
  · exact noLs_all.mp k.no u hu⟩
section
variable {β : Type} {C : Nat → List U → VR U} {fr : Nat → Bool} {en : VEnv}
theorem getK_0 {w : Bool} {u : U} {k : U → VR β} : getK (some (w, u) :: en) 0 k = k u := nrf rfl
theorem getK_s {o : Option (Bool × U)} {i : Nat} {k : U → VR β} : getK (o :: en) (i + 1) k = getK en i k := by unfold getK; rw [List.getElem?_cons_succ]
theorem setK_0 {o : Option (Bool × U)} {w : Bool} {u : U} {k : VEnv → VR β} : setK (o :: en) 0 w u k = k (some (w, u) :: en) := nrf rfl
theorem setK_s {o : Option (Bool × U)} {i : Nat} {w : Bool} {u : U} {k : VEnv → VR β} : setK (o :: en) (i + 1) w u k = setK en i w u fun e => k (o :: e) := nrf rfl
theorem setsK_0 {us : List U} {k : VEnv → VR β} : setsK en [] us k = k en := nrf (by cases us <;> rfl)
theorem setsK_s {i : Nat} {is : List Nat} {u : U} {us : List U} {k : VEnv → VR β} : setsK en (i :: is) (u :: us) k = setK en i false u fun e => setsK e is us k := nrf rfl
theorem ownK_0 {us : List U} {k : List U → VR β} : ownK (some (true, .lst us) :: en) 0 k = k us := nrf rfl
theorem ownK_s {o : Option (Bool × U)} {i : Nat} {k : List U → VR β} : ownK (o :: en) (i + 1) k = ownK en i k := by unfold ownK ownV; rw [List.getElem?_cons_succ]
theorem low_0 {w : Bool} {u : U} : low (some (w, u) :: en) 0 = some (false, u) :: en := nrf rfl
theorem low_n : low (none :: en) 0 = none :: en := nrf rfl
theorem low_s {o : Option (Bool × U)} {i : Nat} : low (o :: en) (i + 1) = o :: low en i := by
  unfold low
  rw [List.getElem?_cons_succ]
  cases en[i]? with
  | none => rfl
  | some o => cases o <;> rfl
theorem unown_0 : unown en [] = en := nrf rfl
theorem unown_s {i : Nat} {is : List Nat} : unown en (i :: is) = unown (low en i) is := nrf rfl
theorem put_n {fl : Bool} {is : List Nat} {i : Nat} {u : U} {k : VEnv → VR β} [h : NoL u] : putK fl is i u en k = setK en i false u k := by
  have e : isL u = false := by
    have := h.no
    cases u <;> first | rfl | (unfold noL at this; cases this)
  unfold putK leak keeps setK
  rw [e, Bool.and_false, h.no]; rfl
theorem put_l {is : List Nat} {i : Nat} {us : List U} {k : VEnv → VR β} [h : NoLs us] : putK true is i (.lst us) en k = setK en i true (.lst us) k := by
  unfold putK leak keeps setK isL
  simp [h.no]
theorem put_sh {is : List Nat} {i : Nat} {us : List U} {k : VEnv → VR β} : putK false is i (.lst us) en k = setK (unown en is) i false (.lst us) k := by
  unfold putK leak keeps setK isL
  simp [noL]
theorem put_sz {is : List Nat} {i : Nat} {us : List U} {k : VEnv → VR β} (h : noLs us = false) : putK true is i (.lst us) en k = setK (unown en is) i true (.lst us) k := by
  unfold putK leak keeps setK isL
  simp [noL, h]
theorem put_t {fl : Bool} {is : List Nat} {i : Nat} {us : List U} {k : VEnv → VR β} (h : noLs us = false) : putK fl is i (.tup us) en k = setK (unown en is) i false (.tup us) k := by
  unfold putK leak keeps setK isL
  simp [noL, h]
theorem leak_n {w : Bool} {u : U} {is : List Nat} [h : NoL u] : leak w u is en = en := by
  unfold leak keeps
  rw [h.no]; rfl
theorem leaks_n {us : List U} {is : List Nat} [h : NoLs us] : leaks us is en = en := by
  unfold leaks
  rw [h.no]; rfl
section
variable {k : U → VR β}
theorem r_var {i : Nat} : (evV C (.var i) en).bind k = getK en i k := by
  rw [evV]; unfold getV getK
  cases en[i]? with
  | none => rfl
  | some o => cases o <;> rfl
theorem r_cI {i : Int} : (evV C (.con (.int i)) en).bind k = k (.int i) := by rw [evV]; rfl
theorem r_cB {i : Bool} : (evV C (.con (.bl i)) en).bind k = k (.bl i) := by rw [evV]; rfl
theorem r_cN : (evV C (.con .non) en).bind k = k .non := by rw [evV]; rfl
theorem r_cS {x : Str} : (evV C (.con (.str x)) en).bind k = k (.str x) := by rw [evV]; rfl
theorem r_bin {o : Bop} {a b : E} : (evV C (.bin o a b) en).bind k = (evV C a en).bind fun x => (evV C b en).bind fun y => (binU o x y).bind k := by
  rw [evV, bind_as]; congr; funext x; rw [bind_as]
theorem r_neg {a : E} : (evV C (.neg a) en).bind k = (evV C a en).bind fun x => (negU x).bind k := by rw [evV, bind_as]
theorem r_not {a : E} : (evV C (.not a) en).bind k = (evV C a en).bind fun x => (truU x).bind fun t => k (.bl (!t)) := by
  rw [evV, bind_as]; congr; funext x; rw [bind_as]; rfl
theorem r_cmp {o : Cop} {a b : E} : (evV C (.cmp o a b) en).bind k = (evV C a en).bind fun x => (evV C b en).bind fun y => (cmpU o x y).bind k := by
  rw [evV, bind_as]; congr; funext x; rw [bind_as]
theorem ite_bi {α : Type} {t : Bool} {m n : VR α} {k : α → VR β} : (if t = true then m else n).bind k = if t = true then m.bind k else n.bind k := by cases t <;> rfl
theorem r_chn {o o' : Cop} {a b c : E} : (evV C (.chn o o' a b c) en).bind k = (evV C a en).bind fun x => (evV C b en).bind fun y => (cmpU o x y).bind fun z => (truU z).bind fun t => if t = true then (evV C c en).bind fun z => (cmpU o' y z).bind k else k (.bl false) := by
  rw [evV, bind_as]; congr; funext x; rw [bind_as]; congr; funext y; rw [bind_as]; congr; funext z; rw [bind_as]; congr; funext t
  rw [ite_bi]
  cases t
  · rfl
  · rw [if_pos rfl, if_pos rfl, bind_as]
theorem r_and {a b : E} : (evV C (.and a b) en).bind k = (evV C a en).bind fun x => (truU x).bind fun t => if t = true then (evV C b en).bind k else k (.bl false) := by
  rw [evV, bind_as]; congr; funext x; rw [bind_as]; congr; funext t; rw [ite_bi]; rfl
theorem r_or {a b : E} : (evV C (.or a b) en).bind k = (evV C a en).bind fun x => (truU x).bind fun t => if t = true then k (.bl true) else (evV C b en).bind k := by
  rw [evV, bind_as]; congr; funext x; rw [bind_as]; congr; funext t; rw [ite_bi]; rfl
theorem r_ite {c a b : E} : (evV C (.ite c a b) en).bind k = (evV C c en).bind fun x => (truU x).bind fun t => if t = true then (evV C a en).bind k else (evV C b en).bind k := by
  rw [evV, bind_as]; congr; funext x; rw [bind_as]; congr; funext t; rw [ite_bi]
theorem r_tup {es : Es} : (evV C (.tup es) en).bind k = (evVs C es en).bind fun xs => if xs.length ≤ sizeLine then k (.tup xs) else .stuck := by
  rw [evV, bind_as]; congr; funext xs; split <;> rfl
theorem r_lst {es : Es} : (evV C (.lst es) en).bind k = (evVs C es en).bind fun xs => if xs.length ≤ sizeLine then k (.lst xs) else .stuck := by
  rw [evV, bind_as]; congr; funext xs; split <;> rfl
theorem r_idx {a i : E} : (evV C (.idx a i) en).bind k = (evV C a en).bind fun x => (evV C i en).bind fun y => (ixU x y).bind k := by
  rw [evV, bind_as]; congr; funext x; rw [bind_as]
theorem r_slc {p q : Bool} {a lo hi : E} : (evV C (.slc p q a lo hi) en).bind k = (evV C a en).bind fun x => (evV C lo en).bind fun y => (bndU p y).bind fun y => (evV C hi en).bind fun z => (bndU q z).bind fun z => (slcU x y z).bind k := by
  rw [evV, bind_as]; congr; funext x; rw [bind_as]; congr; funext y; rw [bind_as]; congr; funext y; rw [bind_as]; congr; funext z; rw [bind_as]
theorem r_call {f : Nat} {es : Es} : (evV C (.call f es) en).bind k = (evVs C es en).bind fun xs => (C f xs).bind k := by rw [evV, bind_as]
theorem r_blt {b : Blt} {es : Es} : (evV C (.blt b es) en).bind k = (evVs C es en).bind fun xs => (bltU b xs).bind k := by rw [evV, bind_as]
theorem r_isi {a : E} {T : NL.Ty} : (evV C (.isi a T) en).bind k = (evV C a en).bind fun x => (isiU T x).bind k := by rw [evV, bind_as]
theorem r_comp {own : List Nat} {tg : Tg} {it : NL.It} {c e : E} : (evV C (.comp own tg it c e) en).bind k = (evVt C it en).bind fun p => if p.1.length ≤ sizeLine then (noXV (compV (fun d => bindV tg d (wipeV en own)) (fun en' => (evV C c en').bind truU) (fun en' => evV C e en') p.1)).bind fun us => k (.lst us) else .stuck := by
  rw [evV, bind_as]; congr; funext p
  split
  · cases compV (fun d => bindV tg d (wipeV en own)) (fun en' => (evV C c en').bind truU) (fun en' => evV C e en') p.1 <;> rfl
  · rfl
theorem nox_ok {α : Type} {a : α} {k : α → VR β} : (noXV (.ok a)).bind k = k a := nrf rfl
theorem nox_of {α : Type} {r : VR α} {a : α} {k : α → VR β} (h : r = .ok a) : (noXV r).bind k = k a := by rw [h]; rfl
/-! operations -/
theorem o_add {i j : Int} : (binU .add (.int i) (.int j)).bind k = k (.int (i + j)) := nrf rfl
theorem o_sub {i j : Int} : (binU .sub (.int i) (.int j)).bind k = k (.int (i - j)) := nrf rfl
theorem o_neg {i : Int} : (negU (.int i)).bind k = k (.int (-i)) := nrf rfl
theorem o_cat {xs ys : List U} (h : xs.length + ys.length ≤ sizeLine) : (binU .add (.lst xs) (.lst ys)).bind k = k (.lst (xs ++ ys)) := by simp only [binU, if_pos h]; rfl
theorem o_mod {i j : Int} (hj : j ≠ 0) : (binU .mod (.int i) (.int j)).bind k = k (.int (i.fmod j)) := by simp only [binU, if_pos hj]; rfl
theorem o_fdiv {i j : Int} (hj : j ≠ 0 ∧ j.natAbs.log2 < 9000) : (binU .fdiv (.int i) (.int j)).bind k = k (.int (i.fdiv j)) := by simp only [binU, if_pos hj]; rfl
theorem o_pow {i j : Int} (hj : 0 ≤ j ∧ (Builtin.Int.intBits i : Int) * j ≤ 2 ^ 27) : (binU .pow (.int i) (.int j)).bind k = k (.int (i ^ j.toNat)) := by simp only [binU, if_pos hj]; rfl
theorem o_mul0 {i j : Int} (hj : MulOk i j) : (binU .mul (.int i) (.int j)).bind k = k (.int (i * j)) := by simp only [binU, if_pos hj]; rfl
theorem o_lt {i j : Int} : (cmpU .lt (.int i) (.int j)).bind k = k (.bl (decide (i < j))) := nrf rfl
theorem o_le {i j : Int} : (cmpU .le (.int i) (.int j)).bind k = k (.bl (decide (i ≤ j))) := nrf rfl
theorem o_gt {i j : Int} : (cmpU .gt (.int i) (.int j)).bind k = k (.bl (decide (j < i))) := nrf rfl
theorem o_ge {i j : Int} : (cmpU .ge (.int i) (.int j)).bind k = k (.bl (decide (j ≤ i))) := nrf rfl
theorem o_eqG {x y : U} {b : Bool} (e : eqU x y = some b) : (cmpU .eq x y).bind k = k (.bl b) := by
  show (ofU (eqU x y)).bind k = _
  rw [e]; rfl
theorem o_neG {x y : U} {b : Bool} (e : eqU x y = some b) : (cmpU .ne x y).bind k = k (.bl (!b)) := by
  show (ofU ((eqU x y).map (!·))).bind k = _
  rw [e]; rfl
theorem o_inG {x y : U} {b : Bool} (e : inU x y = some b) : (cmpU .isIn x y).bind k = k (.bl b) := by
  show (ofU (inU x y)).bind k = _
  rw [e]; rfl
theorem o_niG {x y : U} {b : Bool} (e : inU x y = some b) : (cmpU .notIn x y).bind k = k (.bl (!b)) := by
  show (ofU ((inU x y).map (!·))).bind k = _
  rw [e]; rfl
theorem o_ltG {x y : U} {b : Bool} (e : ordU .lt 12 x y = some b) : (cmpU .lt x y).bind k = k (.bl b) := by
  show (ofU (ordU .lt 12 x y)).bind k = _
  rw [e]; rfl
theorem o_isB {d : U} {b : Bool} : (cmpU .is_ d (.bl b)).bind k = k (.bl (match d with | .bl c => b == c | _ => false)) := nrf rfl
theorem o_isNotB {d : U} {b : Bool} : (cmpU .isNot d (.bl b)).bind k = k (.bl (!(match d with | .bl c => b == c | _ => false))) := nrf rfl
theorem o_isN {d : U} : (cmpU .is_ d .non).bind k = k (.bl (match d with | .non => true | _ => false)) := nrf (by cases d <;> rfl)
theorem o_isNotN {d : U} : (cmpU .isNot d .non).bind k = k (.bl (!(match d with | .non => true | _ => false))) := nrf (by cases d <;> rfl)
theorem o_ixT {xs : List U} {i : Int} {u : U} (h : atI xs i = some u) : (ixU (.tup xs) (.int i)).bind k = k u := by
  unfold ixU; dsimp only; rw [h]; rfl
theorem o_ixL {xs : List U} {i : Int} {u : U} (h : atI xs i = some u) : (ixU (.lst xs) (.int i)).bind k = k u := by
  unfold ixU sqU; dsimp only; rw [h]; rfl
theorem o_ixF {xs : List U} {i : Int} {u : U} (h : atI xs i = some u) : (ixU (.frz xs) (.int i)).bind k = k u := by
  unfold ixU sqU; dsimp only; rw [h]; rfl
theorem at_0 {α : Type} {a : α} {r : List α} : atI (a :: r) 0 = some a := by unfold atI ixN; simp
theorem at_1 {α : Type} {a b : α} {r : List α} : atI (a :: b :: r) 1 = some b := by
  unfold atI ixN
  rw [if_pos (by decide), if_pos (by simp only [List.length_cons]; omega)]; rfl
theorem at_2 {α : Type} {a b c : α} {r : List α} : atI (a :: b :: c :: r) 2 = some c := by
  unfold atI ixN
  rw [if_pos (by decide), if_pos (by simp only [List.length_cons]; omega)]; rfl
theorem at_3 {α : Type} {a b c d : α} {r : List α} : atI (a :: b :: c :: d :: r) 3 = some d := by
  unfold atI ixN
  rw [if_pos (by decide), if_pos (by simp only [List.length_cons]; omega)]; rfl
theorem o_ix0 {a : U} {r : List U} : (ixU (.tup (a :: r)) (.int 0)).bind k = k a := o_ixT at_0
theorem o_ix1 {a b : U} {r : List U} : (ixU (.tup (a :: b :: r)) (.int 1)).bind k = k b := o_ixT at_1
theorem o_ix2 {a b c : U} {r : List U} : (ixU (.tup (a :: b :: c :: r)) (.int 2)).bind k = k c := o_ixT at_2
theorem o_lx0 {a : U} {r : List U} : (ixU (.lst (a :: r)) (.int 0)).bind k = k a := o_ixL at_0
theorem o_lx1 {a b : U} {r : List U} : (ixU (.lst (a :: b :: r)) (.int 1)).bind k = k b := o_ixL at_1
theorem o_lx2 {a b c : U} {r : List U} : (ixU (.lst (a :: b :: c :: r)) (.int 2)).bind k = k c := o_ixL at_2
theorem o_lx3 {a b c d : U} {r : List U} : (ixU (.lst (a :: b :: c :: d :: r)) (.int 3)).bind k = k d := o_ixL at_3
theorem o_lenT {xs : List U} : (bltU .len [.tup xs]).bind k = k (.int xs.length) := nrf rfl
theorem o_lenL {xs : List U} : (bltU .len [.lst xs]).bind k = k (.int xs.length) := nrf rfl
theorem o_lenF {xs : List U} : (bltU .len [.frz xs]).bind k = k (.int xs.length) := nrf rfl
theorem o_listL {xs : List U} : (bltU .list [.lst xs]).bind k = k (.lst xs) := nrf rfl
theorem o_listT {xs : List U} : (bltU .list [.tup xs]).bind k = k (.lst xs) := nrf rfl
theorem o_listF {xs : List U} : (bltU .list [.frz xs]).bind k = k (.lst xs) := nrf rfl
theorem o_tupL {xs : List U} : (bltU .tuple [.lst xs]).bind k = k (.tup xs) := nrf rfl
theorem o_slcL {xs : List U} {lo hi : Option Int} : (slcU (.lst xs) lo hi).bind k = k (.lst (cutU xs lo hi)) := nrf rfl
theorem o_slcF {xs : List U} {lo hi : Option Int} : (slcU (.frz xs) lo hi).bind k = k (.lst (cutU xs lo hi)) := nrf rfl
theorem o_abs {i : Int} : (bltU .abs [.int i]).bind k = k (.int (if i < 0 then -i else i)) := nrf rfl
theorem o_intI {i : Int} : (bltU .int [.int i]).bind k = k (.int i) := nrf rfl
theorem o_intB {b : Bool} : (bltU .int [.bl b]).bind k = k (.int (if b = true then 1 else 0)) := nrf rfl
theorem o_isi {x : U} {T : NL.Ty} : (isiU T x).bind k = k (.bl (tyU x == T.nm || (tyU x == "bool" && T.nm == "int"))) := nrf rfl
theorem o_isiII {i : Int} : (isiU .int (.int i)).bind k = k (.bl true) := nrf rfl
theorem o_isiBB {b : Bool} : (isiU .bool (.bl b)).bind k = k (.bl true) := nrf rfl
theorem o_isiTT {xs : List U} : (isiU .tuple (.tup xs)).bind k = k (.bl true) := nrf rfl
theorem o_isiLL {xs : List U} : (isiU .list (.lst xs)).bind k = k (.bl true) := nrf rfl
end
theorem bu_f {x : U} {k : Option Int → VR β} : (bndU false x).bind k = k none := nrf rfl
theorem bu_t {i : Int} {k : Option Int → VR β} : (bndU true (.int i)).bind k = k (some i) := nrf rfl
theorem r_nil {k : List U → VR β} : (evVs C .nil en).bind k = k [] := by rw [evVs]; rfl
theorem r_cons {e : E} {es : Es} {k : List U → VR β} : (evVs C (.cons e es) en).bind k = (evV C e en).bind fun x => (evVs C es en).bind fun xs => k (x :: xs) := by
  rw [evVs, bind_as]; congr; funext x; rw [bind_as]; rfl
theorem r_tru {b : Bool} {k : Bool → VR β} : (truU (.bl b)).bind k = k b := nrf rfl
theorem i_val_ {e : E} {k : List U × Bool → VR β} : (evVt C (.val e) en).bind k = (evV C e en).bind fun d => (iterU d).bind k := by rw [evVt, bind_as]
theorem i_T {xs : List U} {k : List U × Bool → VR β} : (iterU (.tup xs)).bind k = k (xs, false) := nrf rfl
theorem i_L {xs : List U} {k : List U × Bool → VR β} : (iterU (.lst xs)).bind k = k (xs, true) := nrf rfl
theorem i_F {xs : List U} {k : List U × Bool → VR β} : (iterU (.frz xs)).bind k = k (xs, true) := nrf rfl
theorem i_rng1_ {b : E} {k : List U × Bool → VR β} : (evVt C (.rng1 b) en).bind k = (evV C b en).bind fun y => (rngU (.int 0) y).bind fun xs => k (xs, false) := by
  rw [evVt, bind_as]; congr; funext y; rw [bind_as]; rfl
theorem i_rng2_ {a b : E} {k : List U × Bool → VR β} : (evVt C (.rng2 a b) en).bind k = (evV C a en).bind fun x => (evV C b en).bind fun y => (rngU x y).bind fun xs => k (xs, false) := by
  rw [evVt, bind_as]; congr; funext x; rw [bind_as]; congr; funext y; rw [bind_as]; rfl
theorem o_rng {a b : Int} {k : List U → VR β} (h1 : -(2 ^ 62) ≤ a ∧ a < 2 ^ 62 ∧ -(2 ^ 62) ≤ b ∧ b < 2 ^ 62) : (rngU (.int a) (.int b)).bind k = k ((List.range (b - a).toNat).map fun k => .int (a + (k : Nat))) := by
  have e : rngU (.int a) (.int b) = .ok ((List.range (b - a).toNat).map fun k => .int (a + (k : Nat))) := if_pos h1
  rw [e]; rfl
theorem u_T {n : Nat} {xs : List U} {k : List U → VR β} (h : xs.length = n) : (unpU n (.tup xs)).bind k = k xs := by
  have e : unpU n (.tup xs) = .ok xs := if_pos h
  rw [e]; rfl
theorem u_L {n : Nat} {xs : List U} {k : List U → VR β} (h : xs.length = n) : (unpU n (.lst xs)).bind k = k xs := by
  have e : unpU n (.lst xs) = .ok xs := if_pos h
  rw [e]; rfl
theorem u_2 {i j : Nat} {x y : U} {k : List U → VR β} : (unpU (List.length [i, j]) (.tup [x, y])).bind k = k [x, y] := u_T rfl
theorem u_3 {i j l : Nat} {x y z : U} {k : List U → VR β} : (unpU (List.length [i, j, l]) (.tup [x, y, z])).bind k = k [x, y, z] := u_T rfl
theorem u_4 {i j l m : Nat} {x y z w : U} {k : List U → VR β} : (unpU (List.length [i, j, l, m]) (.tup [x, y, z, w])).bind k = k [x, y, z, w] := u_T rfl
theorem u_l2 {i j : Nat} {x y : U} {k : List U → VR β} : (unpU (List.length [i, j]) (.lst [x, y])).bind k = k [x, y] := u_L rfl
theorem u_l3 {i j l : Nat} {x y z : U} {k : List U → VR β} : (unpU (List.length [i, j, l]) (.lst [x, y, z])).bind k = k [x, y, z] := u_L rfl
theorem u_l4 {i j l m : Nat} {x y z w : U} {k : List U → VR β} : (unpU (List.length [i, j, l, m]) (.lst [x, y, z, w])).bind k = k [x, y, z, w] := u_L rfl
theorem u_n2 {x y : U} {k : List U → VR β} : (unpU 2 (.tup [x, y])).bind k = k [x, y] := u_T rfl
theorem u_n3 {x y z : U} {k : List U → VR β} : (unpU 3 (.tup [x, y, z])).bind k = k [x, y, z] := u_T rfl
theorem u_n4 {x y z w : U} {k : List U → VR β} : (unpU 4 (.tup [x, y, z, w])).bind k = k [x, y, z, w] := u_T rfl
theorem u_nl2 {x y : U} {k : List U → VR β} : (unpU 2 (.lst [x, y])).bind k = k [x, y] := u_L rfl
theorem u_nl3 {x y z : U} {k : List U → VR β} : (unpU 3 (.lst [x, y, z])).bind k = k [x, y, z] := u_L rfl
theorem u_nl4 {x y z w : U} {k : List U → VR β} : (unpU 4 (.lst [x, y, z, w])).bind k = k [x, y, z, w] := u_L rfl
theorem b_nm {i : Nat} {u : U} {k : VEnv → VR β} : (bindV (.nm i) u en).bind k = setK en i false u k := nrf rfl
theorem b_tp {is : List Nat} {u : U} {k : VEnv → VR β} : (bindV (.tp is) u en).bind k = (unpU is.length u).bind fun us => setsK en is us k := by
  show ((unpU is.length u).bind _).bind k = _
  rw [bind_as]; rfl
/-! wiping -/
def wipeK {β : Type} (en : VEnv) (own : List Nat) (k : VEnv → VR β) : VR β := k (wipeV en own)
theorem wipe_0 : wipeV en [] = en := nrf rfl
def clrV (en : VEnv) (v : Nat) : VEnv := en.set v none
theorem wipe_s {v : Nat} {vs : List Nat} : wipeV en (v :: vs) = clrV (wipeV en vs) v := nrf rfl
theorem clr_0 {o : Option (Bool × U)} : clrV (o :: en) 0 = none :: en := nrf rfl
theorem clr_s {o : Option (Bool × U)} {i : Nat} : clrV (o :: en) (i + 1) = o :: clrV en i := nrf rfl
theorem c_nil {bnd : U → VR VEnv} {c : VEnv → VR Bool} {e : VEnv → VR U} {k : List U → VR β} : (noXV (compV bnd c e [])).bind k = k [] := nrf rfl
/-! statements -/
section
variable {k : VF → VR β}
def seqK {β : Type} (g : VEnv → VR β) (k : VF → VR β) : VF → VR β := fun f => match f with
  | .nx en => g en
  | f => k f
theorem x_set {i : Nat} {e : E} : (exV fr C (.set i e) en).bind k = (evV C e en).bind fun u => putK (freshE fr e) (fvE e) i u en fun en => k (.nx en) := by
  rw [exV, bind_as]; rfl
theorem x_unp {is : List Nat} {e : E} : (exV fr C (.unp is e) en).bind k = (evV C e en).bind fun u => (unpU is.length u).bind fun us => setsK (leaks us (fvE e) en) is us fun en => k (.nx en) := by
  rw [exV, bind_as]; congr; funext u; rw [bind_as]; rfl
theorem x_expr {e : E} : (exV fr C (.expr e) en).bind k = (evV C e en).bind fun _ => k (.nx en) := by
  rw [exV, bind_as]; rfl
theorem x_ret {e : E} : (exV fr C (.ret e) en).bind k = (evV C e en).bind fun u => k (.ret ((freshE fr e && isL u) || ownR en e) u) := by
  rw [exV, bind_as]; rfl
theorem x_ret0 : (exV fr C .ret0 en).bind k = k (.ret false .non) := by rw [exV]; rfl
theorem x_if {c : E} {a b : Sts} : (exV fr C (.ifs c a b) en).bind k = (evV C c en).bind fun x => (truU x).bind fun t => if t = true then (exVB fr C a en).bind k else (exVB fr C b en).bind k := by
  rw [exV, bind_as]; congr; funext x; rw [bind_as]; congr; funext t; rw [ite_bi]
theorem x_brk : (exV fr C .brk en).bind k = k (.brk en) := by rw [exV]; rfl
theorem x_cnt : (exV fr C .cnt en).bind k = k (.cnt en) := by rw [exV]; rfl
theorem x_pass : (exV fr C .pass en).bind k = k (.nx en) := by rw [exV]; rfl
theorem x_nil : (exVB fr C .nil en).bind k = k (.nx en) := by rw [exVB]; rfl
theorem x_cons {s : NL.St} {r : Sts} : (exVB fr C (.cons s r) en).bind k = (exV fr C s en).bind (seqK (fun en => (exVB fr C r en).bind k) k) := by
  rw [exVB, bind_as]; congr; funext f; cases f <;> rfl
theorem x_app {i : Nat} {e : E} : (exV fr C (.app i e) en).bind k = ownK en i fun _ => (evV C e en).bind fun u => ownK (leak false u (fvE e) en) i fun us => if us.length < sizeLine then setK (leak false u (fvE e) en) i true (.lst (us ++ [u])) fun en => k (.nx en) else .stuck := by
  rw [exV, bind_as]; unfold ownK; congr; funext us0; rw [bind_as]; congr; funext u; rw [bind_as]; congr; funext us; split <;> rfl
def augK {β : Type} (en : VEnv) (i : Nat) (k : Int → VR β) : VR β := (intV en i).bind k
theorem aug_0 {w : Bool} {x : Int} {k : Int → VR β} : augK (some (w, .int x) :: en) 0 k = k x := nrf rfl
theorem aug_s {o : Option (Bool × U)} {i : Nat} {k : Int → VR β} : augK (o :: en) (i + 1) k = augK en i k := by unfold augK intV; rw [List.getElem?_cons_succ]
theorem toI_k {x : Int} {k : Int → VR β} : (toI (.int x)).bind k = k x := nrf rfl
theorem x_aug {i : Nat} {e : E} : (exV fr C (.aug i e) en).bind k = augK en i fun x => (evV C e en).bind fun y => (toI y).bind fun y => setK en i false (.int (x + y)) fun en => k (.nx en) := by
  rw [exV, bind_as]; unfold augK; congr; funext x; rw [bind_as]; congr; funext y; rw [bind_as]; rfl
theorem s_nx {g : VEnv → VR β} {en : VEnv} : seqK g k (.nx en) = g en := nrf rfl
theorem s_rt {g : VEnv → VR β} {w : Bool} {u : U} : seqK g k (.ret w u) = k (.ret w u) := nrf rfl
theorem s_bk {g : VEnv → VR β} {en : VEnv} : seqK g k (.brk en) = k (.brk en) := nrf rfl
theorem s_ct {g : VEnv → VR β} {en : VEnv} : seqK g k (.cnt en) = k (.cnt en) := nrf rfl
/-! loops -/
def forK {β : Type} (bnd : U → VEnv → VR VEnv) (b : VEnv → VR VF) (xs : List U) (k : VF → VR β) : VF → VR β := fun f => match f with
  | .nx en' => (forV bnd b xs en').bind k
  | .cnt en' => (forV bnd b xs en').bind k
  | .brk en' => k (.nx en')
  | f => k f
def lowI (p : List U × Bool) (w : Bool) (is : List Nat) (en : VEnv) : VEnv := if ((!p.2 || w) && noLs p.1) = true then en else unown en is
theorem x_for {tg : Tg} {e : E} {b : Sts} : (exV fr C (.for_ tg (.val e) b) en).bind k = (evV C e en).bind fun u => (iterU u).bind fun p => (forV (bindV tg) (fun en' => exVB fr C b en') p.1 (lowI p (freshE fr e && isL u) (fvE e) en)).bind k := by
  rw [exV, bind_as]; congr; funext u; rw [bind_as]; rfl
theorem x_for1 {tg : Tg} {e : E} {b : Sts} : (exV fr C (.for_ tg (.rng1 e) b) en).bind k = (evVt C (.rng1 e) en).bind fun p => (forV (bindV tg) (fun en' => exVB fr C b en') p.1 en).bind k := by
  rw [exV, bind_as]
  intro e z; cases z
theorem x_for2 {tg : Tg} {e e' : E} {b : Sts} : (exV fr C (.for_ tg (.rng2 e e') b) en).bind k = (evVt C (.rng2 e e') en).bind fun p => (forV (bindV tg) (fun en' => exVB fr C b en') p.1 en).bind k := by
  rw [exV, bind_as]
  intro e z; cases z
theorem li_T {xs : List U} {w : Bool} {is : List Nat} [h : NoLs xs] : lowI (xs, false) w is en = en := by unfold lowI; rw [h.no]; rfl
theorem li_F {xs : List U} {is : List Nat} [h : NoLs xs] : lowI (xs, true) true is en = en := by unfold lowI; rw [h.no]; rfl
theorem li_S {xs : List U} {is : List Nat} : lowI (xs, true) false is en = unown en is := by unfold lowI; rfl
theorem f_nil {bnd : U → VEnv → VR VEnv} {b : VEnv → VR VF} : (forV bnd b [] en).bind k = k (.nx en) := nrf rfl
theorem f_cons {bnd : U → VEnv → VR VEnv} {b : VEnv → VR VF} {x : U} {xs : List U} : (forV bnd b (x :: xs) en).bind k = (bnd x en).bind fun en1 => (b en1).bind (forK bnd b xs k) := by
  rw [forV, bind_as]; congr; funext en1; rw [bind_as]; congr; funext f; cases f <;> rfl
theorem k_nx {bnd : U → VEnv → VR VEnv} {b : VEnv → VR VF} {xs : List U} : forK bnd b xs k (.nx en) = (forV bnd b xs en).bind k := nrf rfl
theorem k_ct {bnd : U → VEnv → VR VEnv} {b : VEnv → VR VF} {xs : List U} : forK bnd b xs k (.cnt en) = (forV bnd b xs en).bind k := nrf rfl
theorem k_bk {bnd : U → VEnv → VR VEnv} {b : VEnv → VR VF} {xs : List U} : forK bnd b xs k (.brk en) = k (.nx en) := nrf rfl
theorem k_rt {bnd : U → VEnv → VR VEnv} {b : VEnv → VR VF} {xs : List U} {w : Bool} {u : U} : forK bnd b xs k (.ret w u) = k (.ret w u) := nrf rfl
def whK {β : Type} (c : VEnv → VR Bool) (b : VEnv → VR VF) (n : Nat) (k : VF → VR β) : VF → VR β := fun f => match f with
  | .nx en' => (whlV c b n en').bind k
  | .cnt en' => (whlV c b n en').bind k
  | .brk en' => k (.nx en')
  | f => k f
theorem x_whl {c : E} {b : Sts} : (exV fr C (.whl c b) en).bind k = (whlV (fun en' => (evV C c en').bind truU) (fun en' => exVB fr C b en') fuel en).bind k := by rw [exV]
theorem w_succ {c : E} {b : VEnv → VR VF} {n : Nat} : (whlV (fun en' => (evV C c en').bind truU) b (n + 1) en).bind k = (evV C c en).bind fun x => (truU x).bind fun t => if t = true then (b en).bind (whK (fun en' => (evV C c en').bind truU) b n k) else k (.nx en) := by
  rw [whlV, bind_as, bind_as]; congr; funext x; congr; funext t
  rw [ite_bi, bind_as]
  cases t
  · rfl
  · rw [if_pos rfl, if_pos rfl]; congr; funext f; cases f <;> rfl
theorem wk_nx {c : VEnv → VR Bool} {b : VEnv → VR VF} {n : Nat} : whK c b n k (.nx en) = (whlV c b n en).bind k := nrf rfl
theorem wk_ct {c : VEnv → VR Bool} {b : VEnv → VR VF} {n : Nat} : whK c b n k (.cnt en) = (whlV c b n en).bind k := nrf rfl
theorem wk_bk {c : VEnv → VR Bool} {b : VEnv → VR VF} {n : Nat} : whK c b n k (.brk en) = k (.nx en) := nrf rfl
theorem wk_rt {c : VEnv → VR Bool} {b : VEnv → VR VF} {n : Nat} {w : Bool} {u : U} : whK c b n k (.ret w u) = k (.ret w u) := nrf rfl
end
/-! ### defs -/
def retK (w : Bool) : VF → VR U
  | .nx _ => .ok .non
  | .ret o u => if (w && isL u && !o) = true then .stuck else .ok u
  | _ => .stuck
theorem run_eq {w : Bool} {f : Fn} {us : List U} (h : us.length = f.np) : runV fr C w f us = (exVB fr C f.body (us.map (fun u => some (false, u)) ++ List.replicate (f.nv - f.np) none)).bind (retK w) := by
  unfold runV
  rw [if_pos h]
  cases exVB fr C f.body (us.map (fun u => some (false, u)) ++ List.replicate (f.nv - f.np) none) with
  | ok fl => cases fl <;> rfl
  | exc c u => rfl
  | stuck => rfl
theorem call_eq {T : Nat → Option Fn} {n i : Nat} {fn : Fn} {us : List U} (h : n ≠ 0) (hT : T i = some fn) : callV T fr n i us = runV fr (callV T fr (n - 1)) (fr i) fn us := by
  cases n with
  | zero => exact absurd rfl h
  | succ n =>
    show (match T i with | some fn => runV fr (callV T fr n) (fr i) fn us | none => .stuck) = _
    rw [hT]; rfl
theorem rt_nx {w : Bool} : retK w (.nx en) = .ok .non := nrf rfl
theorem rt_f {o : Bool} {u : U} : retK false (.ret o u) = .ok u := nrf rfl
theorem rt_t {u : U} {w : Bool} : retK w (.ret true u) = .ok u := by unfold retK; simp
theorem ow_0 {w : Bool} {u : U} : ownR (some (w, u) :: en) (.var 0) = w := nrf rfl
theorem ow_s {o : Option (Bool × U)} {i : Nat} : ownR (o :: en) (.var (i + 1)) = ownR en (.var i) := by unfold ownR; dsimp only; rw [List.getElem?_cons_succ]
theorem il_l {us : List U} : isL (.lst us) = true := nrf rfl
theorem fe_lst {es : Es} : freshE fr (.lst es) = true := by unfold freshE; rfl
theorem fe_comp {own : List Nat} {tg : Tg} {it : NL.It} {c e : E} : freshE fr (.comp own tg it c e) = true := by unfold freshE; rfl
theorem fe_slc {p q : Bool} {a b c : E} : freshE fr (.slc p q a b c) = true := by unfold freshE; rfl
theorem fe_bin {o : Bop} {a b : E} : freshE fr (.bin o a b) = true := by unfold freshE; rfl
theorem fe_list {es : Es} : freshE fr (.blt .list es) = true := by unfold freshE newB; rfl
theorem fe_call {f : Nat} {es : Es} : freshE fr (.call f es) = fr f := by unfold freshE; rfl
theorem fe_var {i : Nat} : freshE fr (.var i) = false := by unfold freshE; rfl
end
/-! ### sizes -/
class Sz (n : outParam Nat) (i : Int) : Prop where
  lt : i.natAbs < 2 ^ n
theorem Sz.up {n m : Nat} {i : Int} (h : Sz n i) (l : n ≤ m) : Sz m i := ⟨Nat.lt_of_lt_of_le h.lt (Nat.pow_le_pow_right (by decide) l)⟩
theorem natAbs_add_lt {a b : Int} {n m : Nat} (h1 : a.natAbs < 2 ^ n) (h2 : b.natAbs < 2 ^ m) : (a + b).natAbs < 2 ^ (n + m + 1) := by
  have e : (a + b).natAbs ≤ a.natAbs + b.natAbs := Int.natAbs_add_le a b
  have p : 2 ^ (n + m + 1) = 2 * (2 ^ n * 2 ^ m) := by rw [Nat.pow_succ, Nat.pow_add]; omega
  have q1 : 2 ^ n ≤ 2 ^ n * 2 ^ m := Nat.le_mul_of_pos_right _ (Nat.pow_pos (by decide))
  have q2 : 2 ^ m ≤ 2 ^ n * 2 ^ m := Nat.le_mul_of_pos_left _ (Nat.pow_pos (by decide))
  omega
instance sz_add {n m : Nat} {i j : Int} [a : Sz n i] [b : Sz m j] : Sz (n + m + 1) (i + j) := ⟨natAbs_add_lt a.lt b.lt⟩
instance sz_sub {n m : Nat} {i j : Int} [a : Sz n i] [b : Sz m j] : Sz (n + m + 1) (i - j) := ⟨by rw [Int.sub_eq_add_neg]; exact natAbs_add_lt a.lt (by rw [Int.natAbs_neg]; exact b.lt)⟩
instance sz_neg {n : Nat} {i : Int} [a : Sz n i] : Sz n (-i) := ⟨by rw [Int.natAbs_neg]; exact a.lt⟩
instance sz_mul {n m : Nat} {i j : Int} [a : Sz n i] [b : Sz m j] : Sz (n + m) (i * j) := ⟨by
  rw [Int.natAbs_mul, Nat.pow_add]
  exact Nat.mul_lt_mul_of_lt_of_lt a.lt b.lt⟩
instance sz_0 : Sz 1 0 := ⟨by decide⟩
instance sz_1 : Sz 1 1 := ⟨by decide⟩
instance sz_2 : Sz 2 2 := ⟨by decide⟩
theorem mulOk {n m : Nat} {i j : Int} [a : Sz n i] [b : Sz m j] (h : n + m ≤ 130000000) : MulOk i j := ⟨n, m, a.lt, b.lt, h⟩
theorem o_mul {β : Type} {k : U → VR β} {n m : Nat} {i j : Int} [a : Sz n i] [b : Sz m j] (hh : n + m ≤ 130000000) : (binU .mul (.int i) (.int j)).bind k = k (.int (i * j)) := o_mul0 (mulOk hh)
theorem fuel_ge {n m : Nat} (h : m < 2 ^ n) (hn : n ≤ 99999) : m + 1 ≤ fuel := by
  have e : fuel = 2 ^ 100000 := by unfold fuel; rfl
  rw [e]
  have := Nat.pow_le_pow_right (show 0 < 2 by decide) (show n ≤ 99999 from hn)
  have q : 2 ^ 99999 ≤ 2 ^ 100000 := Nat.pow_le_pow_right (by decide) (by decide)
  exact Nat.le_trans (Nat.succ_le_of_lt h) (Nat.le_trans this q)
/-! ### equal, in order -/
theorem ieq (i j : Int) : (i == j) = decide (i = j) := by rw [Bool.eq_iff_iff]; simp
theorem eqv_int {i j : Int} : PyData.eqv (.int i) (.int j) = decide (i = j) := by simp only [PyData.eqv]; exact ieq i j
/-- how a thing of ours is told: as plain data, equal where it is equal -/
class Tl (α : Type) [DecidableEq α] (f : α → U) (d : outParam Nat) (p : outParam (α → PyData)) : Prop where
  pu : ∀ (k : Nat) (x : α), d ≤ k → pdU k (f x) = some (p x)
  pt : ∀ (k : Nat) (x : α), d ≤ k → pdT k (f x) = some (p x)
  eqv : ∀ x y, PyData.eqv (p x) (p y) = decide (x = y)
theorem eq_tl {α : Type} [DecidableEq α] {f : α → U} {d : Nat} {p : α → PyData} [t : Tl α f d p] (h : d ≤ 12) (x y : α) : eqU (f x) (f y) = some (decide (x = y)) := by
  unfold eqU
  rw [t.pu 12 x h, t.pu 12 y h, ← t.eqv x y]
theorem eqT_tl {α : Type} [DecidableEq α] {f : α → U} {d : Nat} {p : α → PyData} [t : Tl α f d p] (h : d ≤ 12) (x y : α) : eqT (f x) (f y) = some (decide (x = y)) := by
  unfold eqT
  rw [t.pt 12 x h, t.pt 12 y h, ← t.eqv x y]
instance tl_int : Tl Int U.int 0 PyData.int := ⟨fun k x _ => by cases k <;> rfl, fun k x _ => by cases k <;> rfl, fun x y => eqv_int⟩
abbrev pr {α β : Type} (f : α → U) (g : β → U) : α × β → U := fun x => .tup [f x.1, g x.2]
abbrev tr {α β γ : Type} (f : α → U) (g : β → U) (h : γ → U) : α × β × γ → U := fun x => .tup [f x.1, g x.2.1, h x.2.2]
instance tl_pr {α β : Type} [DecidableEq α] [DecidableEq β] {f : α → U} {g : β → U} {d e : Nat} {p : α → PyData} {q : β → PyData} [a : Tl α f d p] [b : Tl β g e q] : Tl (α × β) (pr f g) (max d e + 1) (fun x => .tuple [p x.1, q x.2]) := by
  refine ⟨fun k x h => ?_, fun k x h => ?_, fun x y => ?_⟩
  · obtain ⟨k, rfl⟩ : ∃ j, k = j + 1 := ⟨k - 1, by omega⟩
    show (NL.mapO (pdU k) [f x.1, g x.2]).map _ = _
    unfold NL.mapO NL.mapO NL.mapO
    rw [a.pu k x.1 (by omega), b.pu k x.2 (by omega)]; rfl
  · obtain ⟨k, rfl⟩ : ∃ j, k = j + 1 := ⟨k - 1, by omega⟩
    show (NL.mapO (pdT k) [f x.1, g x.2]).map _ = _
    unfold NL.mapO NL.mapO NL.mapO
    rw [a.pt k x.1 (by omega), b.pt k x.2 (by omega)]; rfl
  · simp only [PyData.eqv, PyData.eqvAll, Bool.and_true, a.eqv, b.eqv]
    rw [← Bool.decide_and]
    exact decide_eq_decide.mpr Prod.ext_iff.symm
instance tl_tr {α β γ : Type} [DecidableEq α] [DecidableEq β] [DecidableEq γ] {f : α → U} {g : β → U} {h : γ → U} {d e c : Nat} {p : α → PyData} {q : β → PyData} {r : γ → PyData} [a : Tl α f d p] [b : Tl β g e q] [t : Tl γ h c r] : Tl (α × β × γ) (tr f g h) (max d (max e c) + 1) (fun x => .tuple [p x.1, q x.2.1, r x.2.2]) := by
  refine ⟨fun k x hk => ?_, fun k x hk => ?_, fun x y => ?_⟩
  · obtain ⟨k, rfl⟩ : ∃ j, k = j + 1 := ⟨k - 1, by omega⟩
    show (NL.mapO (pdU k) [f x.1, g x.2.1, h x.2.2]).map _ = _
    unfold NL.mapO NL.mapO NL.mapO NL.mapO
    rw [a.pu k x.1 (by omega), b.pu k x.2.1 (by omega), t.pu k x.2.2 (by omega)]; rfl
  · obtain ⟨k, rfl⟩ : ∃ j, k = j + 1 := ⟨k - 1, by omega⟩
    show (NL.mapO (pdT k) [f x.1, g x.2.1, h x.2.2]).map _ = _
    unfold NL.mapO NL.mapO NL.mapO NL.mapO
    rw [a.pt k x.1 (by omega), b.pt k x.2.1 (by omega), t.pt k x.2.2 (by omega)]; rfl
  · simp only [PyData.eqv, PyData.eqvAll, Bool.and_true, a.eqv, b.eqv, t.eqv]
    rw [← Bool.decide_and, ← Bool.decide_and]
    exact decide_eq_decide.mpr (by rw [Prod.ext_iff, Prod.ext_iff])
abbrev ptU : GM.Pt → U := pr U.int U.int
/-- lists -/
abbrev lsU {α : Type} (f : α → U) : List α → U := fun xs => .lst (xs.map f)
theorem mapO_tl {α : Type} {f : α → U} {g : U → Option PyData} {p : α → PyData} (h : ∀ x, g (f x) = some (p x)) : ∀ xs : List α, NL.mapO g (xs.map f) = some (xs.map p)
  | [] => rfl
  | x :: xs => by
    rw [List.map_cons, List.map_cons]
    unfold NL.mapO
    rw [h x, mapO_tl h xs]
theorem eqvAll_tl {α : Type} [DecidableEq α] {p : α → PyData} (h : ∀ x y, PyData.eqv (p x) (p y) = decide (x = y)) : ∀ xs ys : List α, PyData.eqvAll (xs.map p) (ys.map p) = decide (xs = ys)
  | [], [] => by simp [PyData.eqvAll]
  | [], y :: ys => by simp [PyData.eqvAll]
  | x :: xs, [] => by simp [PyData.eqvAll]
  | x :: xs, y :: ys => by
    rw [List.map_cons, List.map_cons]
    simp only [PyData.eqvAll]
    rw [h, eqvAll_tl h xs ys, ← Bool.decide_and]
    exact decide_eq_decide.mpr (by simp)
theorem eq_ls {α : Type} [DecidableEq α] {f : α → U} {d : Nat} {p : α → PyData} [t : Tl α f d p] (h : d ≤ 11) (xs ys : List α) : eqU (.lst (xs.map f)) (.lst (ys.map f)) = some (decide (xs = ys)) := by
  unfold eqU
  have e : ∀ zs : List α, pdU 12 (.lst (zs.map f)) = some (.list (zs.map p)) := fun zs => by
    show (NL.mapO (pdU 11) (zs.map f)).map _ = _
    rw [mapO_tl (fun x => t.pu 11 x h)]; rfl
  rw [e, e]
  simp only [PyData.eqv]
  rw [eqvAll_tl t.eqv]
theorem any_tl {α : Type} [DecidableEq α] {p : α → PyData} (h : ∀ x y, PyData.eqv (p x) (p y) = decide (x = y)) (x : α) : ∀ ys : List α, ((ys.map p).any fun q => PyData.eqv q (p x)) = decide (x ∈ ys)
  | [] => by simp
  | y :: ys => by
    rw [List.map_cons, List.any_cons, h, any_tl h x ys, ← Bool.decide_or]
    exact decide_eq_decide.mpr (by rw [List.mem_cons]; exact ⟨fun z => z.imp Eq.symm id, fun z => z.imp Eq.symm id⟩)
theorem in_ls {α : Type} [DecidableEq α] {f : α → U} {d : Nat} {p : α → PyData} [t : Tl α f d p] (h : d ≤ 12) (x : α) (ys : List α) : inU (f x) (.lst (ys.map f)) = some (decide (x ∈ ys)) := by
  unfold inU sqU
  dsimp only
  rw [t.pu 12 x h, mapO_tl (fun x => t.pu 12 x h)]
  dsimp only
  rw [any_tl t.eqv]
theorem in_tp {α : Type} [DecidableEq α] {f : α → U} {d : Nat} {p : α → PyData} [t : Tl α f d p] (h : d ≤ 12) (x : α) (ys : List α) : inU (f x) (.tup (ys.map f)) = some (decide (x ∈ ys)) := by
  unfold inU
  dsimp only
  rw [t.pu 12 x h, mapO_tl (fun x => t.pu 12 x h)]
  dsimp only
  rw [any_tl t.eqv]
end VL

/-! Numerals, rests, powers (printed by gen22.py). -/
namespace VL
open PySem PySem.Spec PyProof.Rows L2 NL
class Pz (j : Int) : Prop where
  pos : 0 < j
instance sz_emod {n : Nat} {i j : Int} [a : Sz n j] [p : Pz j] : Sz n (i % j) := ⟨by
  have h1 := Int.emod_nonneg i (Int.ne_of_gt p.pos)
  have h2 := Int.emod_lt_of_pos i p.pos
  have h3 := a.lt
  omega⟩
instance pz_tp {j : Int} [p : Pz j] : Pz (2 * j + 1) := ⟨by have := p.pos; omega⟩
instance pz_tm {j : Int} [p : Pz j] : Pz (2 * j - 1) := ⟨by have := p.pos; omega⟩
theorem sl {n : Nat} (h : n ≤ 1000) : (n ≤ sizeLine) = True := eq_true (Nat.le_of_lt (small1000 h))
instance pz_n1 : Pz 1 := ⟨by decide⟩
instance pz_n2 : Pz 2 := ⟨by decide⟩
instance pz_n3 : Pz 3 := ⟨by decide⟩
instance pz_n4 : Pz 4 := ⟨by decide⟩
instance pz_n5 : Pz 5 := ⟨by decide⟩
instance pz_n6 : Pz 6 := ⟨by decide⟩
instance pz_n7 : Pz 7 := ⟨by decide⟩
instance pz_n8 : Pz 8 := ⟨by decide⟩
instance pz_n9 : Pz 9 := ⟨by decide⟩
instance pz_n10 : Pz 10 := ⟨by decide⟩
instance pz_n11 : Pz 11 := ⟨by decide⟩
instance pz_n12 : Pz 12 := ⟨by decide⟩
instance pz_n13 : Pz 13 := ⟨by decide⟩
instance pz_n14 : Pz 14 := ⟨by decide⟩
instance pz_n15 : Pz 15 := ⟨by decide⟩
instance pz_n16 : Pz 16 := ⟨by decide⟩
instance pz_n17 : Pz 17 := ⟨by decide⟩
instance pz_n18 : Pz 18 := ⟨by decide⟩
instance pz_n19 : Pz 19 := ⟨by decide⟩
instance pz_n20 : Pz 20 := ⟨by decide⟩
instance pz_n21 : Pz 21 := ⟨by decide⟩
instance pz_n22 : Pz 22 := ⟨by decide⟩
instance pz_n23 : Pz 23 := ⟨by decide⟩
instance pz_n24 : Pz 24 := ⟨by decide⟩
instance pz_n25 : Pz 25 := ⟨by decide⟩
instance pz_n26 : Pz 26 := ⟨by decide⟩
instance pz_n27 : Pz 27 := ⟨by decide⟩
instance pz_n28 : Pz 28 := ⟨by decide⟩
instance pz_n29 : Pz 29 := ⟨by decide⟩
instance pz_n30 : Pz 30 := ⟨by decide⟩
instance pz_n31 : Pz 31 := ⟨by decide⟩
instance pz_n32 : Pz 32 := ⟨by decide⟩
instance pz_n33 : Pz 33 := ⟨by decide⟩
instance pz_n34 : Pz 34 := ⟨by decide⟩
instance pz_n35 : Pz 35 := ⟨by decide⟩
instance pz_n36 : Pz 36 := ⟨by decide⟩
instance pz_n37 : Pz 37 := ⟨by decide⟩
instance pz_n38 : Pz 38 := ⟨by decide⟩
instance pz_n39 : Pz 39 := ⟨by decide⟩
instance pz_n40 : Pz 40 := ⟨by decide⟩
instance pz_n41 : Pz 41 := ⟨by decide⟩
instance pz_n42 : Pz 42 := ⟨by decide⟩
instance pz_n43 : Pz 43 := ⟨by decide⟩
instance pz_n44 : Pz 44 := ⟨by decide⟩
instance pz_n45 : Pz 45 := ⟨by decide⟩
instance pz_n46 : Pz 46 := ⟨by decide⟩
instance pz_n47 : Pz 47 := ⟨by decide⟩
instance pz_n48 : Pz 48 := ⟨by decide⟩
instance pz_n49 : Pz 49 := ⟨by decide⟩
instance pz_n50 : Pz 50 := ⟨by decide⟩
instance pz_n51 : Pz 51 := ⟨by decide⟩
instance pz_n52 : Pz 52 := ⟨by decide⟩
instance pz_n53 : Pz 53 := ⟨by decide⟩
instance pz_n54 : Pz 54 := ⟨by decide⟩
instance pz_n55 : Pz 55 := ⟨by decide⟩
instance pz_n56 : Pz 56 := ⟨by decide⟩
instance pz_n57 : Pz 57 := ⟨by decide⟩
instance pz_n58 : Pz 58 := ⟨by decide⟩
instance pz_n59 : Pz 59 := ⟨by decide⟩
instance pz_n60 : Pz 60 := ⟨by decide⟩
instance pz_n61 : Pz 61 := ⟨by decide⟩
instance pz_n62 : Pz 62 := ⟨by decide⟩
instance pz_n63 : Pz 63 := ⟨by decide⟩
instance pz_n64 : Pz 64 := ⟨by decide⟩
instance pz_n72 : Pz 72 := ⟨by decide⟩
instance pz_n78 : Pz 78 := ⟨by decide⟩
instance pz_n83 : Pz 83 := ⟨by decide⟩
instance pz_n95 : Pz 95 := ⟨by decide⟩
instance pz_n100 : Pz 100 := ⟨by decide⟩
instance pz_n201 : Pz 201 := ⟨by decide⟩
instance pz_n285 : Pz 285 := ⟨by decide⟩
instance pz_n384 : Pz 384 := ⟨by decide⟩
instance pz_n512 : Pz 512 := ⟨by decide⟩
instance pz_n748 : Pz 748 := ⟨by decide⟩
instance pz_n999 : Pz 999 := ⟨by decide⟩
instance pz_n1000 : Pz 1000 := ⟨by decide⟩
instance pz_n1001 : Pz 1001 := ⟨by decide⟩
instance pz_n1009 : Pz 1009 := ⟨by decide⟩
instance pz_n1013 : Pz 1013 := ⟨by decide⟩
instance pz_n1999 : Pz 1999 := ⟨by decide⟩
instance pz_n2001 : Pz 2001 := ⟨by decide⟩
instance pz_n2003 : Pz 2003 := ⟨by decide⟩
instance pz_n7919 : Pz 7919 := ⟨by decide⟩
instance pz_n8000 : Pz 8000 := ⟨by decide⟩
instance pz_n12345 : Pz 12345 := ⟨by decide⟩
instance pz_n16807 : Pz 16807 := ⟨by decide⟩
instance pz_n39373 : Pz 39373 := ⟨by decide⟩
instance pz_n48271 : Pz 48271 := ⟨by decide⟩
instance pz_n54321 : Pz 54321 := ⟨by decide⟩
instance pz_n69621 : Pz 69621 := ⟨by decide⟩
instance pz_n69623 : Pz 69623 := ⟨by decide⟩
instance pz_n100000 : Pz 100000 := ⟨by decide⟩
instance pz_n1000003 : Pz 1000003 := ⟨by decide⟩
instance pz_n2147483563 : Pz 2147483563 := ⟨by decide⟩
instance pz_n2147483587 : Pz 2147483587 := ⟨by decide⟩
instance pz_n2147483629 : Pz 2147483629 := ⟨by decide⟩
instance pz_n2147483647 : Pz 2147483647 := ⟨by decide⟩
instance sz_n3 : Sz 6 3 := ⟨by decide⟩
instance sz_n4 : Sz 6 4 := ⟨by decide⟩
instance sz_n5 : Sz 6 5 := ⟨by decide⟩
instance sz_n6 : Sz 6 6 := ⟨by decide⟩
instance sz_n7 : Sz 6 7 := ⟨by decide⟩
instance sz_n8 : Sz 6 8 := ⟨by decide⟩
instance sz_n9 : Sz 6 9 := ⟨by decide⟩
instance sz_n10 : Sz 6 10 := ⟨by decide⟩
instance sz_n11 : Sz 6 11 := ⟨by decide⟩
instance sz_n12 : Sz 6 12 := ⟨by decide⟩
instance sz_n13 : Sz 6 13 := ⟨by decide⟩
instance sz_n14 : Sz 6 14 := ⟨by decide⟩
instance sz_n15 : Sz 6 15 := ⟨by decide⟩
instance sz_n16 : Sz 6 16 := ⟨by decide⟩
instance sz_n17 : Sz 6 17 := ⟨by decide⟩
instance sz_n18 : Sz 6 18 := ⟨by decide⟩
instance sz_n19 : Sz 6 19 := ⟨by decide⟩
instance sz_n20 : Sz 6 20 := ⟨by decide⟩
instance sz_n21 : Sz 6 21 := ⟨by decide⟩
instance sz_n22 : Sz 6 22 := ⟨by decide⟩
instance sz_n23 : Sz 6 23 := ⟨by decide⟩
instance sz_n24 : Sz 6 24 := ⟨by decide⟩
instance sz_n25 : Sz 6 25 := ⟨by decide⟩
instance sz_n26 : Sz 6 26 := ⟨by decide⟩
instance sz_n27 : Sz 6 27 := ⟨by decide⟩
instance sz_n28 : Sz 6 28 := ⟨by decide⟩
instance sz_n29 : Sz 6 29 := ⟨by decide⟩
instance sz_n30 : Sz 6 30 := ⟨by decide⟩
instance sz_n31 : Sz 6 31 := ⟨by decide⟩
instance sz_n32 : Sz 6 32 := ⟨by decide⟩
instance sz_n33 : Sz 6 33 := ⟨by decide⟩
instance sz_n34 : Sz 6 34 := ⟨by decide⟩
instance sz_n35 : Sz 6 35 := ⟨by decide⟩
instance sz_n36 : Sz 6 36 := ⟨by decide⟩
instance sz_n37 : Sz 6 37 := ⟨by decide⟩
instance sz_n38 : Sz 6 38 := ⟨by decide⟩
instance sz_n39 : Sz 6 39 := ⟨by decide⟩
instance sz_n40 : Sz 6 40 := ⟨by decide⟩
instance sz_n41 : Sz 6 41 := ⟨by decide⟩
instance sz_n42 : Sz 6 42 := ⟨by decide⟩
instance sz_n43 : Sz 6 43 := ⟨by decide⟩
instance sz_n44 : Sz 6 44 := ⟨by decide⟩
instance sz_n45 : Sz 6 45 := ⟨by decide⟩
instance sz_n46 : Sz 6 46 := ⟨by decide⟩
instance sz_n47 : Sz 6 47 := ⟨by decide⟩
instance sz_n48 : Sz 6 48 := ⟨by decide⟩
instance sz_n49 : Sz 6 49 := ⟨by decide⟩
instance sz_n50 : Sz 6 50 := ⟨by decide⟩
instance sz_n51 : Sz 6 51 := ⟨by decide⟩
instance sz_n52 : Sz 6 52 := ⟨by decide⟩
instance sz_n53 : Sz 6 53 := ⟨by decide⟩
instance sz_n54 : Sz 6 54 := ⟨by decide⟩
instance sz_n55 : Sz 6 55 := ⟨by decide⟩
instance sz_n56 : Sz 6 56 := ⟨by decide⟩
instance sz_n57 : Sz 6 57 := ⟨by decide⟩
instance sz_n58 : Sz 6 58 := ⟨by decide⟩
instance sz_n59 : Sz 6 59 := ⟨by decide⟩
instance sz_n60 : Sz 6 60 := ⟨by decide⟩
instance sz_n61 : Sz 6 61 := ⟨by decide⟩
instance sz_n62 : Sz 6 62 := ⟨by decide⟩
instance sz_n63 : Sz 6 63 := ⟨by decide⟩
instance sz_n64 : Sz 7 64 := ⟨by decide⟩
instance sz_n72 : Sz 7 72 := ⟨by decide⟩
instance sz_n78 : Sz 7 78 := ⟨by decide⟩
instance sz_n83 : Sz 7 83 := ⟨by decide⟩
instance sz_n95 : Sz 7 95 := ⟨by decide⟩
instance sz_n100 : Sz 7 100 := ⟨by decide⟩
instance sz_n201 : Sz 8 201 := ⟨by decide⟩
instance sz_n285 : Sz 9 285 := ⟨by decide⟩
instance sz_n384 : Sz 9 384 := ⟨by decide⟩
instance sz_n512 : Sz 10 512 := ⟨by decide⟩
instance sz_n748 : Sz 10 748 := ⟨by decide⟩
instance sz_n999 : Sz 10 999 := ⟨by decide⟩
instance sz_n1000 : Sz 10 1000 := ⟨by decide⟩
instance sz_n1001 : Sz 10 1001 := ⟨by decide⟩
instance sz_n1009 : Sz 10 1009 := ⟨by decide⟩
instance sz_n1013 : Sz 10 1013 := ⟨by decide⟩
instance sz_n1999 : Sz 11 1999 := ⟨by decide⟩
instance sz_n2001 : Sz 11 2001 := ⟨by decide⟩
instance sz_n2003 : Sz 11 2003 := ⟨by decide⟩
instance sz_n7919 : Sz 13 7919 := ⟨by decide⟩
instance sz_n8000 : Sz 13 8000 := ⟨by decide⟩
instance sz_n12345 : Sz 14 12345 := ⟨by decide⟩
instance sz_n16807 : Sz 15 16807 := ⟨by decide⟩
instance sz_n39373 : Sz 16 39373 := ⟨by decide⟩
instance sz_n48271 : Sz 16 48271 := ⟨by decide⟩
instance sz_n54321 : Sz 16 54321 := ⟨by decide⟩
instance sz_n69621 : Sz 17 69621 := ⟨by decide⟩
instance sz_n69623 : Sz 17 69623 := ⟨by decide⟩
instance sz_n100000 : Sz 17 100000 := ⟨by decide⟩
instance sz_n1000003 : Sz 20 1000003 := ⟨by decide⟩
instance sz_n2147483563 : Sz 31 2147483563 := ⟨by decide⟩
instance sz_n2147483587 : Sz 31 2147483587 := ⟨by decide⟩
instance sz_n2147483629 : Sz 31 2147483629 := ⟨by decide⟩
instance sz_n2147483647 : Sz 31 2147483647 := ⟨by decide⟩
@[irreducible] def P10 : Int := 10000000000
theorem P10_eq : P10 = 10000000000 := by unfold P10; rfl
instance pz_p10 : Pz P10 := ⟨by rw [P10_eq]; decide⟩
instance sz_p10 : Sz 34 P10 := ⟨by rw [P10_eq]; decide⟩
@[irreducible] def P20 : Int := 100000000000000000000
theorem P20_eq : P20 = 100000000000000000000 := by unfold P20; rfl
instance pz_p20 : Pz P20 := ⟨by rw [P20_eq]; decide⟩
instance sz_p20 : Sz 67 P20 := ⟨by rw [P20_eq]; decide⟩
@[irreducible] def P30 : Int := 1000000000000000000000000000000
theorem P30_eq : P30 = 1000000000000000000000000000000 := by unfold P30; rfl
instance pz_p30 : Pz P30 := ⟨by rw [P30_eq]; decide⟩
instance sz_p30 : Sz 100 P30 := ⟨by rw [P30_eq]; decide⟩
@[irreducible] def P38 : Int := 100000000000000000000000000000000000000
theorem P38_eq : P38 = 100000000000000000000000000000000000000 := by unfold P38; rfl
instance pz_p38 : Pz P38 := ⟨by rw [P38_eq]; decide⟩
instance sz_p38 : Sz 127 P38 := ⟨by rw [P38_eq]; decide⟩
@[irreducible] def P39 : Int := 1000000000000000000000000000000000000000
theorem P39_eq : P39 = 1000000000000000000000000000000000000000 := by unfold P39; rfl
instance pz_p39 : Pz P39 := ⟨by rw [P39_eq]; decide⟩
instance sz_p39 : Sz 130 P39 := ⟨by rw [P39_eq]; decide⟩
@[irreducible] def P40 : Int := 10000000000000000000000000000000000000000
theorem P40_eq : P40 = 10000000000000000000000000000000000000000 := by unfold P40; rfl
instance pz_p40 : Pz P40 := ⟨by rw [P40_eq]; decide⟩
instance sz_p40 : Sz 133 P40 := ⟨by rw [P40_eq]; decide⟩
@[irreducible] def P59 : Int := 100000000000000000000000000000000000000000000000000000000000
theorem P59_eq : P59 = 100000000000000000000000000000000000000000000000000000000000 := by unfold P59; rfl
instance pz_p59 : Pz P59 := ⟨by rw [P59_eq]; decide⟩
instance sz_p59 : Sz 196 P59 := ⟨by rw [P59_eq]; decide⟩
@[irreducible] def P60 : Int := 1000000000000000000000000000000000000000000000000000000000000
theorem P60_eq : P60 = 1000000000000000000000000000000000000000000000000000000000000 := by unfold P60; rfl
instance pz_p60 : Pz P60 := ⟨by rw [P60_eq]; decide⟩
instance sz_p60 : Sz 200 P60 := ⟨by rw [P60_eq]; decide⟩
@[irreducible] def P64 : Int := 10000000000000000000000000000000000000000000000000000000000000000
theorem P64_eq : P64 = 10000000000000000000000000000000000000000000000000000000000000000 := by unfold P64; rfl
instance pz_p64 : Pz P64 := ⟨by rw [P64_eq]; decide⟩
instance sz_p64 : Sz 213 P64 := ⟨by rw [P64_eq]; decide⟩
@[irreducible] def P240 : Int := 1000000000000000000000000000000000000000000000000000000000000000000000000000000000000000000000000000000000000000000000000000000000000000000000000000000000000000000000000000000000000000000000000000000000000000000000000000000000000000000000000
theorem P240_eq : P240 = 1000000000000000000000000000000000000000000000000000000000000000000000000000000000000000000000000000000000000000000000000000000000000000000000000000000000000000000000000000000000000000000000000000000000000000000000000000000000000000000000000 := by unfold P240; rfl
instance pz_p240 : Pz P240 := ⟨by rw [P240_eq]; decide +kernel⟩
instance sz_p240 : Sz 798 P240 := ⟨by rw [P240_eq]; decide +kernel⟩
instance pz_1 {i j : Int} [p : Pz j] : Pz (1 + i % j) := ⟨by have := Int.emod_nonneg i (Int.ne_of_gt p.pos); omega⟩
instance pz_add {i j : Int} [p : Pz i] [q : Pz j] : Pz (i + j) := ⟨by have := p.pos; have := q.pos; omega⟩
instance pz_mul {i j : Int} [p : Pz i] [q : Pz j] : Pz (i * j) := ⟨Int.mul_pos p.pos q.pos⟩
section
variable {β : Type} {k : U → VR β}
theorem o_p10 : (binU .pow (.int 10) (.int 10)).bind k = k (.int P10) := (o_pow ⟨by decide, by decide +kernel⟩).trans (by rw [show ((10 : Int) ^ (10 : Int).toNat) = P10 by rw [P10_eq]; decide +kernel])
theorem o_p20 : (binU .pow (.int 10) (.int 20)).bind k = k (.int P20) := (o_pow ⟨by decide, by decide +kernel⟩).trans (by rw [show ((10 : Int) ^ (20 : Int).toNat) = P20 by rw [P20_eq]; decide +kernel])
theorem o_p30 : (binU .pow (.int 10) (.int 30)).bind k = k (.int P30) := (o_pow ⟨by decide, by decide +kernel⟩).trans (by rw [show ((10 : Int) ^ (30 : Int).toNat) = P30 by rw [P30_eq]; decide +kernel])
theorem o_p38 : (binU .pow (.int 10) (.int 38)).bind k = k (.int P38) := (o_pow ⟨by decide, by decide +kernel⟩).trans (by rw [show ((10 : Int) ^ (38 : Int).toNat) = P38 by rw [P38_eq]; decide +kernel])
theorem o_p39 : (binU .pow (.int 10) (.int 39)).bind k = k (.int P39) := (o_pow ⟨by decide, by decide +kernel⟩).trans (by rw [show ((10 : Int) ^ (39 : Int).toNat) = P39 by rw [P39_eq]; decide +kernel])
theorem o_p40 : (binU .pow (.int 10) (.int 40)).bind k = k (.int P40) := (o_pow ⟨by decide, by decide +kernel⟩).trans (by rw [show ((10 : Int) ^ (40 : Int).toNat) = P40 by rw [P40_eq]; decide +kernel])
theorem o_p59 : (binU .pow (.int 10) (.int 59)).bind k = k (.int P59) := (o_pow ⟨by decide, by decide +kernel⟩).trans (by rw [show ((10 : Int) ^ (59 : Int).toNat) = P59 by rw [P59_eq]; decide +kernel])
theorem o_p60 : (binU .pow (.int 10) (.int 60)).bind k = k (.int P60) := (o_pow ⟨by decide, by decide +kernel⟩).trans (by rw [show ((10 : Int) ^ (60 : Int).toNat) = P60 by rw [P60_eq]; decide +kernel])
theorem o_p64 : (binU .pow (.int 10) (.int 64)).bind k = k (.int P64) := (o_pow ⟨by decide, by decide +kernel⟩).trans (by rw [show ((10 : Int) ^ (64 : Int).toNat) = P64 by rw [P64_eq]; decide +kernel])
theorem o_pq : (binU .pow (.int P60) (.int 4)).bind k = k (.int P240) := by
  rw [P60_eq]
  exact (o_pow ⟨by decide, by decide +kernel⟩).trans (by rw [show ((1000000000000000000000000000000000000000000000000000000000000 : Int) ^ (4 : Int).toNat) = P240 by rw [P240_eq]; decide +kernel])
theorem o_modP {i j : Int} [p : Pz j] : (binU .mod (.int i) (.int j)).bind k = k (.int (i % j)) := (o_mod (Int.ne_of_gt p.pos)).trans (by rw [Int.fmod_eq_emod_of_nonneg _ (Int.le_of_lt p.pos)])
theorem o_fdivP {n : Nat} {i j : Int} [s : Sz n j] [p : Pz j] (hj : n ≤ 9000) : (binU .fdiv (.int i) (.int j)).bind k = k (.int (i / j)) := (o_fdiv ⟨Int.ne_of_gt p.pos, by
  have hp := p.pos
  have h0 : 0 < j.natAbs := by omega
  have l : j.natAbs.log2 < n := (Nat.log2_lt (by omega)).mpr s.lt
  omega⟩).trans (by rw [Int.fdiv_eq_ediv_of_nonneg _ (Int.le_of_lt p.pos)])
end
/-- the cell of a script, 0 behind its end -/
def nth (ns : List Int) (k : Int) : Int := ns.getD k.toNat 0
abbrev scr (ns : List Int) : U := .frz (ns.map U.int)
open GM
theorem at_map {ns : List Int} {k : Int} (h0 : 0 ≤ k) (h1 : k < ns.length) : atI (ns.map U.int) k = some (.int (nth ns k)) := by
  unfold atI ixN nth
  rw [if_pos h0, if_pos (by simpa using h1)]
  have h2 : k.toNat < ns.length := by omega
  simp [h2]
instance sz_sg {x : Int} : Sz 1 (sg x) := ⟨by unfold sg; split; decide; split <;> decide⟩
instance sz_div {m : Nat} {x y : Int} [s : Sz m x] : Sz m (x / y) := ⟨Nat.lt_of_le_of_lt (Int.natAbs_ediv_le_natAbs x y) s.lt⟩
end VL

/-! Orders, loops, comprehensions over lists of ours. -/
namespace VL
open PySem PySem.Spec PyProof.Rows L2 NL GM
/-! ### order -/
/-- how two things are ordered: lt says it -/
structure Od {α : Type} (f : α → U) (d : Nat) (lt : α → α → Bool) : Prop where
  od : ∀ (k : Nat) (x y : α), d ≤ k → ordU .lt k (f x) (f y) = some (lt x y)
def ltI (i j : Int) : Bool := decide (i < j)
theorem od_int : Od U.int 0 ltI := ⟨fun k x y _ => by cases k <;> rfl⟩
def ltPr {α β : Type} [DecidableEq α] (l : α → α → Bool) (m : β → β → Bool) (x y : α × β) : Bool := if x.1 = y.1 then m x.2 y.2 else l x.1 y.1
theorem lexU_last {o : Cop} {f : U → U → Option Bool} {x y : U} {b : Bool} (h : eqT x y = some b) : lexU o f [x] [y] = if b = true then some (ord4 o 0 0) else f x y := by
  unfold lexU
  rw [h]
  cases b
  · rfl
  · unfold lexU; rfl
theorem lexU_cons {o : Cop} {f : U → U → Option Bool} {x y : U} {xs ys : List U} {b : Bool} (h : eqT x y = some b) : lexU o f (x :: xs) (y :: ys) = if b = true then lexU o f xs ys else f x y := by
  rw [lexU, h]
  cases b <;> rfl
theorem od_pr {α β : Type} [DecidableEq α] [DecidableEq β] {f : α → U} {g : β → U} {d e a b : Nat} {l : α → α → Bool} {m : β → β → Bool} {p : α → PyData} {q : β → PyData} [ta : Tl α f a p] [tb : Tl β g b q] (ha : a ≤ 12) (hb : b ≤ 12) (of : Od f d l) (og : Od g e m) (ir : ∀ x, m x x = false) : Od (pr f g) (max d e + 1) (ltPr l m) := by
  refine ⟨fun k x y h => ?_⟩
  obtain ⟨k, rfl⟩ : ∃ j, k = j + 1 := ⟨k - 1, by omega⟩
  have e1 := eqT_tl (f := f) ha x.1 y.1
  have e2 := eqT_tl (f := g) hb x.2 y.2
  have o1 := of.od k x.1 y.1 (by omega)
  have o2 := og.od k x.2 y.2 (by omega)
  show ordU .lt (k + 1) (.tup [f x.1, g x.2]) (.tup [f y.1, g y.2]) = _
  unfold ordU
  have hall : ([f x.1, g x.2].zip [f y.1, g y.2]).all (ordC (ordU .lt k)) = true := by
    simp only [ordC, List.zip_cons_cons, List.zip_nil_right, List.all_cons, List.all_nil, Bool.and_true, e1, e2, o1, o2]
    cases decide (x.1 = y.1) <;> cases decide (x.2 = y.2) <;> rfl
  rw [if_pos hall, lexU_cons e1, lexU_last e2, o1, o2]
  unfold ltPr
  by_cases h1 : x.1 = y.1
  · rw [if_pos (by simpa using h1), if_pos h1]
    by_cases h2 : x.2 = y.2
    · rw [if_pos (by simpa using h2), h2, ir]; rfl
    · rw [if_neg (by simpa using h2)]
  · rw [if_neg (by simpa using h1), if_neg h1]
theorem od_tr {α β γ : Type} [DecidableEq α] [DecidableEq β] [DecidableEq γ] {f : α → U} {g : β → U} {h : γ → U} {d e c a b t : Nat} {l : α → α → Bool} {m : β → β → Bool} {n : γ → γ → Bool} {p : α → PyData} {q : β → PyData} {r : γ → PyData} [ta : Tl α f a p] [tb : Tl β g b q] [tc : Tl γ h t r] (ha : a ≤ 12) (hb : b ≤ 12) (ht : t ≤ 12) (of : Od f d l) (og : Od g e m) (oh : Od h c n) (ir : ∀ x, n x x = false) : Od (tr f g h) (max d (max e c) + 1) (ltPr l (ltPr m n)) := by
  refine ⟨fun k x y hk => ?_⟩
  obtain ⟨k, rfl⟩ : ∃ j, k = j + 1 := ⟨k - 1, by omega⟩
  have e1 := eqT_tl (f := f) ha x.1 y.1
  have e2 := eqT_tl (f := g) hb x.2.1 y.2.1
  have e3 := eqT_tl (f := h) ht x.2.2 y.2.2
  have o1 := of.od k x.1 y.1 (by omega)
  have o2 := og.od k x.2.1 y.2.1 (by omega)
  have o3 := oh.od k x.2.2 y.2.2 (by omega)
  show ordU .lt (k + 1) (.tup [f x.1, g x.2.1, h x.2.2]) (.tup [f y.1, g y.2.1, h y.2.2]) = _
  unfold ordU
  have hall : ([f x.1, g x.2.1, h x.2.2].zip [f y.1, g y.2.1, h y.2.2]).all (ordC (ordU .lt k)) = true := by
    simp only [ordC, List.zip_cons_cons, List.zip_nil_right, List.all_cons, List.all_nil, Bool.and_true, e1, e2, e3, o1, o2, o3]
    cases decide (x.1 = y.1) <;> cases decide (x.2.1 = y.2.1) <;> cases decide (x.2.2 = y.2.2) <;> rfl
  rw [if_pos hall, lexU_cons e1, lexU_cons e2, lexU_last e3, o1, o2, o3]
  unfold ltPr
  by_cases h1 : x.1 = y.1
  · rw [if_pos (by simpa using h1), if_pos h1]
    by_cases h2 : x.2.1 = y.2.1
    · rw [if_pos (by simpa using h2), if_pos h2]
      by_cases h3 : x.2.2 = y.2.2
      · rw [if_pos (by simpa using h3), h3, ir]; rfl
      · rw [if_neg (by simpa using h3)]
    · rw [if_neg (by simpa using h2), if_neg h2]
  · rw [if_neg (by simpa using h1), if_neg h1]
/-- an order that is one -/
structure Tot {α : Type} (lt : α → α → Bool) : Prop where
  ir : ∀ x, lt x x = false
  tr : ∀ x y z, lt x y = true → lt y z = true → lt x z = true
  tt : ∀ x y, x ≠ y → lt x y = true ∨ lt y x = true
theorem Tot.as {α : Type} {lt : α → α → Bool} (t : Tot lt) {x y : α} (h : lt x y = true) : lt y x = false := by
  cases e : lt y x with
  | false => rfl
  | true => have := t.tr x y x h e; rw [t.ir] at this; cases this
theorem Tot.le_tr {α : Type} [DecidableEq α] {lt : α → α → Bool} (t : Tot lt) {x y z : α} (h : lt y x = false) (h2 : lt z y = false) : lt z x = false := by
  cases e : lt z x with
  | false => rfl
  | true =>
    by_cases xy : x = y
    · subst xy; rw [e] at h2; cases h2
    · rcases t.tt x y xy with k | k
      · have := t.tr z x y e k; rw [this] at h2; cases h2
      · rw [k] at h; cases h
theorem tot_int : Tot ltI := ⟨fun x => by simp [ltI], fun x y z h k => by simp [ltI] at *; omega, fun x y h => by simp [ltI]; omega⟩
theorem tot_pr {α β : Type} [DecidableEq α] {l : α → α → Bool} {m : β → β → Bool} (a : Tot l) (b : Tot m) : Tot (ltPr l m) := by
  refine ⟨fun x => by unfold ltPr; rw [if_pos rfl]; exact b.ir _, fun x y z h k => ?_, fun x y h => ?_⟩
  · unfold ltPr at *
    by_cases h1 : x.1 = y.1
    · rw [if_pos h1] at h
      by_cases h2 : y.1 = z.1
      · rw [if_pos h2] at k
        rw [if_pos (h1.trans h2)]; exact b.tr _ _ _ h k
      · rw [if_neg h2] at k
        rw [if_neg (by rw [h1]; exact h2), h1]; exact k
    · rw [if_neg h1] at h
      by_cases h2 : y.1 = z.1
      · rw [if_pos h2] at k
        rw [if_neg (by rw [← h2]; exact h1), ← h2]; exact h
      · rw [if_neg h2] at k
        have q := a.tr _ _ _ h k
        by_cases h3 : x.1 = z.1
        · rw [h3, a.ir] at q; cases q
        · rw [if_neg h3]; exact q
  · unfold ltPr
    by_cases h1 : x.1 = y.1
    · rw [if_pos h1, if_pos h1.symm]
      exact b.tt _ _ (fun e => h (Prod.ext h1 e))
    · rw [if_neg h1, if_neg (fun e => h1 e.symm)]
      exact a.tt _ _ h1
/-- the order of places, of sides, of triangles -/
abbrev ltP : Pt → Pt → Bool := ltPr ltI ltI
abbrev Sd := Pt × Pt
abbrev Tr := Pt × Pt × Pt
abbrev sdU : Sd → U := pr ptU ptU
abbrev trU : Tr → U := VL.tr ptU ptU ptU
abbrev ltS : Sd → Sd → Bool := ltPr ltP ltP
abbrev ltT : Tr → Tr → Bool := ltPr ltP (ltPr ltP ltP)
theorem od_pt : Od ptU 1 ltP := od_pr (by omega) (by omega) od_int od_int tot_int.ir
theorem tot_pt : Tot ltP := tot_pr tot_int tot_int
theorem od_sd : Od sdU 2 ltS := od_pr (by omega) (by omega) od_pt od_pt tot_pt.ir
theorem tot_sd : Tot ltS := tot_pr tot_pt tot_pt
theorem od_trg : Od trU 2 ltT := od_tr (by omega) (by omega) (by omega) od_pt od_pt od_pt tot_pt.ir
theorem tot_trg : Tot ltT := tot_pr tot_pt (tot_pr tot_pt tot_pt)
theorem ltP_lx {a b : Pt} : ltP a b = decide (lx a b) := by
  unfold ltP ltPr ltI lx lxP
  split
  · rename_i h
    exact decide_eq_decide.mpr (by omega)
  · rename_i h
    exact decide_eq_decide.mpr (by omega)
section
variable {β : Type}
theorem o_ltP {a b c d : Int} {k : U → VR β} : (cmpU .lt (.tup [.int a, .int b]) (.tup [.int c, .int d])).bind k = k (.bl (decide (lxP a b c d))) := o_ltG ((od_pt.od 12 (a, b) (c, d) (by omega)).trans (by rw [ltP_lx]))
theorem o_eq {i j : Int} {k : U → VR β} : (cmpU .eq (.int i) (.int j)).bind k = k (.bl (decide (i = j))) := o_eqG (eq_tl (f := U.int) (by omega) i j)
theorem o_ne {i j : Int} {k : U → VR β} : (cmpU .ne (.int i) (.int j)).bind k = k (.bl (!decide (i = j))) := o_neG (eq_tl (f := U.int) (by omega) i j)
theorem o_eqB {i j : Bool} {k : U → VR β} : (cmpU .eq (.bl i) (.bl j)).bind k = k (.bl (i == j)) := o_eqG (by unfold eqU pdU; simp only [PyData.eqv])
theorem o_neB {i j : Bool} {k : U → VR β} : (cmpU .ne (.bl i) (.bl j)).bind k = k (.bl (!(i == j))) := o_neG (by unfold eqU pdU; simp only [PyData.eqv])
theorem pt_dec {a b c d : Int} : decide ((a, b) = (c, d)) = decide (a = c ∧ b = d) := decide_eq_decide.mpr (by simp)
theorem o_eqP {a b c d : Int} {k : U → VR β} : (cmpU .eq (.tup [.int a, .int b]) (.tup [.int c, .int d])).bind k = k (.bl (decide (a = c ∧ b = d))) := o_eqG ((eq_tl (f := ptU) (by omega) (a, b) (c, d)).trans (by rw [pt_dec]))
theorem o_neP {a b c d : Int} {k : U → VR β} : (cmpU .ne (.tup [.int a, .int b]) (.tup [.int c, .int d])).bind k = k (.bl (!decide (a = c ∧ b = d))) := o_neG ((eq_tl (f := ptU) (by omega) (a, b) (c, d)).trans (by rw [pt_dec]))
theorem o_in3 {x y a b c d e f : Int} {k : U → VR β} : (cmpU .isIn (.tup [.int x, .int y]) (.tup [.tup [.int a, .int b], .tup [.int c, .int d], .tup [.int e, .int f]])).bind k = k (.bl (decide ((x = a ∧ y = b) ∨ (x = c ∧ y = d) ∨ (x = e ∧ y = f)))) :=
  o_inG ((in_tp (f := ptU) (by omega) (x, y) [(a, b), (c, d), (e, f)]).trans (by congr 1; exact decide_eq_decide.mpr (by simp)))
theorem o_in2 {x y a b c d : Int} {k : U → VR β} : (cmpU .isIn (.tup [.int x, .int y]) (.tup [.tup [.int a, .int b], .tup [.int c, .int d]])).bind k = k (.bl (decide ((x = a ∧ y = b) ∨ (x = c ∧ y = d)))) :=
  o_inG ((in_tp (f := ptU) (by omega) (x, y) [(a, b), (c, d)]).trans (by congr 1; exact decide_eq_decide.mpr (by simp)))
end
/-! ### the best of a list -/
theorem argBest_le (bt : Nat → Nat → Bool) : ∀ k, argBest bt k ≤ k
  | 0 => Nat.le_refl _
  | k + 1 => by
    unfold argBest
    split
    · exact Nat.le_refl _
    · exact Nat.le_succ_of_le (argBest_le bt k)
theorem argBest_min {α : Type} [DecidableEq α] {lt : α → α → Bool} (t : Tot lt) (xs : List α) (z : α) (bt : Nat → Nat → Bool) (hb : ∀ i j, i < xs.length → j < xs.length → bt i j = lt (xs.getD i z) (xs.getD j z)) :
    ∀ k, k < xs.length → ∀ i, i ≤ k → lt (xs.getD i z) (xs.getD (argBest bt k) z) = false
  | 0, h, i, hi => by
    have : i = 0 := by omega
    subst this
    show lt (xs.getD 0 z) (xs.getD 0 z) = false
    exact t.ir _
  | k + 1, h, i, hi => by
    have ih := argBest_min t xs z bt hb k (by omega)
    have hl := argBest_le bt k
    unfold argBest
    rw [hb (k + 1) (argBest bt k) h (by omega)]
    by_cases c : lt (xs.getD (k + 1) z) (xs.getD (argBest bt k) z) = true
    · rw [if_pos c]
      by_cases e : i = k + 1
      · subst e; exact t.ir _
      · have := ih i (by omega)
        exact t.le_tr (t.as c) this
    · rw [if_neg c]
      by_cases e : i = k + 1
      · subst e; simpa using c
      · exact ih i (by omega)
theorem best_min {α : Type} [DecidableEq α] {f : α → U} {d : Nat} {lt : α → α → Bool} (o : Od f d lt) (hd : d ≤ 12) (t : Tot lt) {xs : List α} (hne : xs ≠ []) : ∃ m ∈ xs, bestU .lt (xs.map f) = some (f m) ∧ ∀ x ∈ xs, lt x m = false := by
  obtain ⟨z, zs, rfl⟩ := List.exists_cons_of_ne_nil hne
  generalize hxs : z :: zs = xs at *
  have hlen : 0 < xs.length := by rw [← hxs]; simp
  have hall : ((xs.map f).all fun x => (xs.map f).all fun y => (ordU .lt 12 x y).isSome) = true := by
    rw [List.all_eq_true]
    intro u hu
    rw [List.all_eq_true]
    intro v hv
    obtain ⟨x, _, rfl⟩ := List.mem_map.mp hu
    obtain ⟨y, _, rfl⟩ := List.mem_map.mp hv
    rw [o.od 12 x y hd]; rfl
  have gd : ∀ i, i < xs.length → (xs.map f).getD i .non = f (xs.getD i z) := fun i hi => by
    rw [List.getD_eq_getElem?_getD, List.getD_eq_getElem?_getD, List.getElem?_map, List.getElem?_eq_getElem hi]; rfl
  let bt : Nat → Nat → Bool := fun i j => (ordU .lt 12 ((xs.map f).getD i .non) ((xs.map f).getD j .non)).getD false
  have hbt : ∀ i j, i < xs.length → j < xs.length → bt i j = lt (xs.getD i z) (xs.getD j z) := fun i j hi hj => by
    show (ordU .lt 12 ((xs.map f).getD i .non) ((xs.map f).getD j .non)).getD false = _
    rw [gd i hi, gd j hj, o.od 12 _ _ hd]; rfl
  have hmin := argBest_min t xs z bt hbt (xs.length - 1) (by omega)
  have hl := argBest_le bt (xs.length - 1)
  have hlt : argBest bt (xs.length - 1) < xs.length := by omega
  refine ⟨xs.getD (argBest bt (xs.length - 1)) z, ?_, ?_, fun x hx => ?_⟩
  · rw [List.getD_eq_getElem?_getD, List.getElem?_eq_getElem hlt]
    exact List.getElem_mem hlt
  · unfold bestU
    rw [if_pos hall]
    show (xs.map f)[argBest bt ((xs.map f).length - 1)]? = _
    rw [List.length_map, List.getElem?_map, List.getElem?_eq_getElem hlt, List.getD_eq_getElem?_getD, List.getElem?_eq_getElem hlt]; rfl
  · obtain ⟨i, hi, rfl⟩ := List.mem_iff_getElem.mp hx
    have := hmin i (by omega)
    rw [List.getD_eq_getElem?_getD, List.getElem?_eq_getElem hi] at this
    exact this
/-! ### loops -/
section
variable {α σ : Type} {f : α → U} {bnd : U → VEnv → VR VEnv} {b : VEnv → VR VF}
/-- a loop whose turns keep P -/
theorem for_inv (P : σ → VEnv → Prop) (step : σ → α → σ) : ∀ {xs : List α} {s : σ} {en : VEnv}, P s en →
    (∀ x ∈ xs, ∀ s en, P s en → ∃ en1 en2, bnd (f x) en = .ok en1 ∧ (b en1 = .ok (.nx en2) ∨ b en1 = .ok (.cnt en2)) ∧ P (step s x) en2) → ∃ en', forV bnd b (xs.map f) en = .ok (.nx en') ∧ P (xs.foldl step s) en'
  | [], s, en, h, _ => ⟨en, rfl, h⟩
  | x :: xs, s, en, h, k => by
    obtain ⟨en1, en2, e1, e2, h2⟩ := k x List.mem_cons_self s en h
    obtain ⟨en', e3, h3⟩ := for_inv P step (xs := xs) h2 (fun y hy => k y (List.mem_cons_of_mem _ hy))
    refine ⟨en', ?_, h3⟩
    rw [List.map_cons, forV, e1]
    show (b en1).bind _ = _
    rcases e2 with e2 | e2 <;> rw [e2] <;> exact e3
/-- a loop by its turns -/
theorem for_ix (P : Nat → VEnv → Prop) : ∀ {xs : List α} {j : Nat} {en : VEnv}, P j en →
    (∀ i x, xs[i]? = some x → ∀ en, P (j + i) en → ∃ en1 en2, bnd (f x) en = .ok en1 ∧ (b en1 = .ok (.nx en2) ∨ b en1 = .ok (.cnt en2)) ∧ P (j + i + 1) en2) → ∃ en', forV bnd b (xs.map f) en = .ok (.nx en') ∧ P (j + xs.length) en'
  | [], j, en, h, _ => ⟨en, rfl, h⟩
  | x :: xs, j, en, h, k => by
    obtain ⟨en1, en2, e1, e2, h2⟩ := k 0 x rfl en h
    obtain ⟨en', e3, h3⟩ := for_ix P (xs := xs) (j := j + 1) h2 (fun i y hy en hp => by
      obtain ⟨a, b, c⟩ := k (i + 1) y (by simpa using hy) en (by rw [show j + (i + 1) = j + 1 + i by omega]; exact hp)
      exact ⟨a, b, by rw [show j + 1 + i + 1 = j + (i + 1) + 1 by omega]; exact c⟩)
    refine ⟨en', ?_, by rw [List.length_cons, show j + (xs.length + 1) = j + 1 + xs.length by omega]; exact h3⟩
    rw [List.map_cons, forV, e1]
    show (b en1).bind _ = _
    rcases e2 with e2 | e2 <;> rw [e2] <;> exact e3
/-- a loop that may end early: at the first x with p -/
theorem for_find (P : VEnv → Prop) (p : α → Bool) (r : α → VF) (hr : ∀ x, ∃ w u, r x = .ret w u) : ∀ {xs : List α} {en : VEnv}, P en →
    (∀ x ∈ xs, ∀ en, P en → ∃ en1, bnd (f x) en = .ok en1 ∧ (p x = true → b en1 = .ok (r x)) ∧ (p x = false → ∃ en2, (b en1 = .ok (.nx en2) ∨ b en1 = .ok (.cnt en2)) ∧ P en2)) →
    (∃ x, xs.find? p = some x ∧ forV bnd b (xs.map f) en = .ok (r x)) ∨ (xs.find? p = none ∧ ∃ en', forV bnd b (xs.map f) en = .ok (.nx en') ∧ P en')
  | [], en, h, _ => .inr ⟨rfl, en, rfl, h⟩
  | x :: xs, en, h, k => by
    obtain ⟨en1, e1, k1, k2⟩ := k x List.mem_cons_self en h
    have st : forV bnd b ((x :: xs).map f) en = (b en1).bind fun f' => match f' with
        | .nx en' => forV bnd b (xs.map f) en'
        | .cnt en' => forV bnd b (xs.map f) en'
        | .brk en' => .ok (.nx en')
        | f => .ok f := by
      rw [List.map_cons, forV, e1]; rfl
    cases hp : p x with
    | true =>
      refine .inl ⟨x, by rw [List.find?_cons, hp], ?_⟩
      rw [st, k1 hp]
      obtain ⟨w, u, e⟩ := hr x
      rw [e]; rfl
    | false =>
      obtain ⟨en2, e2, h2⟩ := k2 hp
      have go : forV bnd b ((x :: xs).map f) en = forV bnd b (xs.map f) en2 := by
        rw [st]
        rcases e2 with e2 | e2 <;> rw [e2] <;> rfl
      rw [go, List.find?_cons, hp]
      exact for_find P p r hr h2 (fun y hy => k y (List.mem_cons_of_mem _ hy))
/-- a comprehension -/
theorem comp_fm {bnd : U → VR VEnv} {c : VEnv → VR Bool} {e : VEnv → VR U} (p : α → Bool) (g : α → U) : ∀ {xs : List α}, (∀ x ∈ xs, ∃ en, bnd (f x) = .ok en ∧ c en = .ok (p x) ∧ (p x = true → e en = .ok (g x))) → compV bnd c e (xs.map f) = .ok ((xs.filter p).map g)
  | [], _ => rfl
  | x :: xs, h => by
    obtain ⟨en, h1, h2, h3⟩ := h x List.mem_cons_self
    have ih := comp_fm (bnd := bnd) (c := c) (e := e) p g (xs := xs) (fun y hy => h y (List.mem_cons_of_mem _ hy))
    rw [List.map_cons, compV, h1]
    show (c en).bind _ = _
    rw [h2]
    show (if p x = true then _ else _) = _
    cases hp : p x with
    | true =>
      rw [if_pos rfl, h3 hp, List.filter_cons_of_pos hp]
      show (compV bnd c e (xs.map f)).bind _ = _
      rw [ih]; rfl
    | false =>
      rw [if_neg Bool.false_ne_true, List.filter_cons_of_neg (by rw [hp]; exact Bool.false_ne_true)]
      exact ih
end
end VL

/-! Rules on symbols, heads first: whose lists, leaks. -/
namespace VL
open PySem PySem.Spec PyProof.Rows L2 NL GM
class FrT (fr : Nat → Bool) (f : Nat) : Prop where
  t : fr f = true
class FrF (fr : Nat → Bool) (f : Nat) : Prop where
  t : fr f = false
class FrE (fr : Nat → Bool) (e : E) : Prop where
  t : freshE fr e = true
class NfE (fr : Nat → Bool) (e : E) : Prop where
  t : freshE fr e = false
section
variable {fr : Nat → Bool}
instance fre_lst {es : Es} : FrE fr (.lst es) := ⟨fe_lst⟩
instance fre_comp {own : List Nat} {tg : Tg} {it : NL.It} {c e : E} : FrE fr (.comp own tg it c e) := ⟨fe_comp⟩
instance fre_slc {p q : Bool} {a b c : E} : FrE fr (.slc p q a b c) := ⟨fe_slc⟩
instance fre_bin {o : Bop} {a b : E} : FrE fr (.bin o a b) := ⟨fe_bin⟩
instance fre_list {es : Es} : FrE fr (.blt .list es) := ⟨fe_list⟩
instance fre_call {f : Nat} {es : Es} [h : FrT fr f] : FrE fr (.call f es) := ⟨by rw [fe_call]; exact h.t⟩
instance fre_ite {c a b : E} [h : FrE fr a] [k : FrE fr b] : FrE fr (.ite c a b) := ⟨by unfold freshE; rw [h.t, k.t]; rfl⟩
instance nfe_call {f : Nat} {es : Es} [h : FrF fr f] : NfE fr (.call f es) := ⟨by rw [fe_call]; exact h.t⟩
instance nfe_var {i : Nat} : NfE fr (.var i) := ⟨by unfold freshE; rfl⟩
instance nfe_idx {a b : E} : NfE fr (.idx a b) := ⟨by unfold freshE; rfl⟩
end
def lowK {β : Type} (en : VEnv) (i : Nat) (k : VEnv → VR β) : VR β := k (low en i)
def unK {β : Type} (en : VEnv) (is : List Nat) (k : VEnv → VR β) : VR β := k (unown en is)
/-- the names of e give up their lists -/
def unE {β : Type} (e : E) (en : VEnv) (k : VEnv → VR β) : VR β := k (unown en (fvE e))
def unEs {β : Type} (e : Es) (en : VEnv) (k : VEnv → VR β) : VR β := k (unown en (fvEs e))
theorem unown_app : ∀ {is js : List Nat} {en : VEnv}, unown en (is ++ js) = unown (unown en is) js
  | [], js, en => rfl
  | i :: is, js, en => by
    rw [List.cons_append]
    show unown (low en i) (is ++ js) = unown (unown (low en i) is) js
    exact unown_app
section
variable {β : Type} {C : Nat → List U → VR U} {fr : Nat → Bool} {en : VEnv} {k : VEnv → VR β}
theorem llow_0 {w : Bool} {u : U} : lowK (some (w, u) :: en) 0 k = k (some (false, u) :: en) := nrf rfl
theorem llow_n : lowK (none :: en) 0 k = k (none :: en) := nrf rfl
theorem llow_s {o : Option (Bool × U)} {i : Nat} : lowK (o :: en) (i + 1) k = lowK en i fun e => k (o :: e) := by unfold lowK; rw [low_s]
theorem un_var {i : Nat} : unE (.var i) en k = lowK en i k := nrf rfl
theorem un_con {d : D} : unE (.con d) en k = k en := nrf rfl
theorem un_bin {o : Bop} {a b : E} : unE (.bin o a b) en k = unE a en fun en => unE b en k := by unfold unE; rw [fvE, unown_app]
theorem un_cmp {o : Cop} {a b : E} : unE (.cmp o a b) en k = unE a en fun en => unE b en k := by unfold unE; rw [fvE, unown_app]
theorem un_idx {a b : E} : unE (.idx a b) en k = unE a en fun en => unE b en k := by unfold unE; rw [fvE, unown_app]
theorem un_slc {p q : Bool} {a b c : E} : unE (.slc p q a b c) en k = unE a en fun en => unE b en fun en => unE c en k := by unfold unE; rw [fvE, unown_app, unown_app]
theorem un_ite {c a b : E} : unE (.ite c a b) en k = unE c en fun en => unE a en fun en => unE b en k := by unfold unE; rw [fvE, unown_app, unown_app]
theorem un_call {f : Nat} {es : Es} : unE (.call f es) en k = unEs es en k := nrf rfl
theorem un_blt {f : Blt} {es : Es} : unE (.blt f es) en k = unEs es en k := nrf rfl
theorem un_tup {es : Es} : unE (.tup es) en k = unEs es en k := nrf rfl
theorem un_lst {es : Es} : unE (.lst es) en k = unEs es en k := nrf rfl
theorem un_nil : unEs .nil en k = k en := nrf rfl
theorem un_cons {e : E} {es : Es} : unEs (.cons e es) en k = unE e en fun en => unEs es en k := by unfold unE unEs; rw [fvEs, unown_app]
/-! a name takes a value -/
def pK {β : Type} (fr : Nat → Bool) (e : E) (i : Nat) (u : U) (en : VEnv) (k : VEnv → VR β) : VR β := putK (freshE fr e) (fvE e) i u en k
theorem p_n {e : E} {i : Nat} {u : U} [h : NoL u] : pK fr e i u en k = setK en i false u k := put_n
theorem p_l {e : E} {i : Nat} {us : List U} [f : FrE fr e] [h : NoLs us] : pK fr e i (.lst us) en k = setK en i true (.lst us) k := by unfold pK; rw [f.t]; exact put_l
theorem p_s {e : E} {i : Nat} {us : List U} [f : NfE fr e] : pK fr e i (.lst us) en k = unE e en fun en => setK en i false (.lst us) k := by unfold pK; rw [f.t]; exact put_sh
theorem y_set {i : Nat} {e : E} {k : VF → VR β} : (exV fr C (.set i e) en).bind k = (evV C e en).bind fun u => pK fr e i u en fun en => k (.nx en) := x_set
/-! parting -/
def uK {β : Type} (e : E) (us : List U) (en : VEnv) (k : VEnv → VR β) : VR β := k (leaks us (fvE e) en)
theorem uk_n {e : E} {us : List U} [h : NoLs us] : uK e us en k = k en := by unfold uK; rw [leaks_n]
theorem uk_s {e : E} {us : List U} (h : noLs us = false) : uK e us en k = unE e en k := by unfold uK leaks unE; simp [h]
theorem y_unp {is : List Nat} {e : E} {k : VF → VR β} : (exV fr C (.unp is e) en).bind k = (evV C e en).bind fun u => (unpU is.length u).bind fun us => uK e us en fun en => setsK en is us fun en => k (.nx en) := x_unp
/-! append -/
def aK {β : Type} (e : E) (u : U) (en : VEnv) (k : VEnv → VR β) : VR β := k (leak false u (fvE e) en)
theorem ak_n {e : E} {u : U} [h : NoL u] : aK e u en k = k en := by unfold aK; rw [leak_n]
theorem ak_l {e : E} {us : List U} : aK e (.lst us) en k = unE e en k := by unfold aK leak keeps unE; simp [noL]
theorem ak_t {e : E} {us : List U} (h : noLs us = false) : aK e (.tup us) en k = unE e en k := by unfold aK leak keeps unE; simp [noL, h]
theorem y_app {i : Nat} {e : E} {k : VF → VR β} : (exV fr C (.app i e) en).bind k = ownK en i fun _ => (evV C e en).bind fun u => aK e u en fun en => ownK en i fun us => if us.length < sizeLine then setK en i true (.lst (us ++ [u])) fun en => k (.nx en) else .stuck := x_app
/-! walks -/
def wK {β : Type} (fr : Nat → Bool) (e : E) (u : U) (p : List U × Bool) (en : VEnv) (k : VEnv → VR β) : VR β := k (lowI p (freshE fr e && isL u) (fvE e) en)
theorem wk_T {e : E} {u : U} {xs : List U} [h : NoLs xs] : wK fr e u (xs, false) en k = k en := by unfold wK; rw [li_T]
theorem wk_F {e : E} {us xs : List U} [f : FrE fr e] [h : NoLs xs] : wK fr e (.lst us) (xs, true) en k = k en := by
  unfold wK
  rw [f.t]
  exact congrArg k li_F
theorem wk_S {e : E} {us xs : List U} [f : NfE fr e] : wK fr e (.lst us) (xs, true) en k = unE e en k := by
  unfold wK
  rw [f.t]
  exact congrArg k li_S
theorem wk_Z {e : E} {us xs : List U} : wK fr e (.frz us) (xs, true) en k = unE e en k := by
  unfold wK unE isL
  rw [Bool.and_false]
  exact congrArg k li_S
theorem y_for {tg : Tg} {e : E} {b : Sts} {k : VF → VR β} : (exV fr C (.for_ tg (.val e) b) en).bind k = (evV C e en).bind fun u => (iterU u).bind fun p => wK fr e u p en fun en => (forV (bindV tg) (fun en' => exVB fr C b en') p.1 en).bind k := x_for
/-! return -/
def reK {β : Type} (fr : Nat → Bool) (e : E) (u : U) (en : VEnv) (k : VF → VR β) : VR β := k (.ret ((freshE fr e && isL u) || ownR en e) u)
theorem y_ret {e : E} {k : VF → VR β} : (exV fr C (.ret e) en).bind k = (evV C e en).bind fun u => reK fr e u en k := x_ret
theorem re_n {e : E} {u : U} [h : NoL u] {k : VF → VR β} : reK fr e u en k = k (.ret ((freshE fr e && isL u) || ownR en e) u) := nrf rfl
theorem re_f {e : E} {us : List U} [f : FrE fr e] {k : VF → VR β} : reK fr e (.lst us) en k = k (.ret true (.lst us)) := by unfold reK; rw [f.t]; rfl
def obK {β : Type} (en : VEnv) (i : Nat) (k : Bool → VR β) : VR β := k (ownR en (.var i))
theorem ob_0 {w : Bool} {u : U} {k : Bool → VR β} : obK (some (w, u) :: en) 0 k = k w := nrf rfl
theorem ob_s {o : Option (Bool × U)} {i : Nat} {k : Bool → VR β} : obK (o :: en) (i + 1) k = obK en i k := by unfold obK; rw [ow_s]
theorem re_v {i : Nat} {us : List U} {k : VF → VR β} : reK fr (.var i) (.lst us) en k = obK en i fun w => k (.ret w (.lst us)) := by unfold reK obK; rw [fe_var]; rfl
theorem re_c {f : Nat} {es : Es} {us : List U} [h : FrF fr f] {k : VF → VR β} : reK fr (.call f es) (.lst us) en k = k (.ret false (.lst us)) := by
  unfold reK
  rw [fe_call, h.t]; rfl
theorem rt_n {w o : Bool} {u : U} [h : NoL u] : retK w (.ret o u) = .ok u := by
  have e : isL u = false := by
    have := h.no
    cases u <;> first | rfl | (unfold noL at this; cases this)
  show (if (w && isL u && !o) = true then VR.stuck else VR.ok u) = _
  rw [e, Bool.and_false, Bool.false_and]; rfl
end
/-! comprehensions -/
def bindW (tg : Tg) (own : List Nat) (en : VEnv) (u : U) : VR VEnv := bindV tg u (wipeV en own)
def clrK {β : Type} (en : VEnv) (v : Nat) (k : VEnv → VR β) : VR β := k (en.set v none)
section
variable {β : Type} {C : Nat → List U → VR U} {fr : Nat → Bool} {en : VEnv}
theorem wip_0 {k : VEnv → VR β} : wipeK en [] k = k en := nrf rfl
theorem wip_s {v : Nat} {vs : List Nat} {k : VEnv → VR β} : wipeK en (v :: vs) k = wipeK en vs fun e => clrK e v k := nrf rfl
theorem clk_0 {o : Option (Bool × U)} {k : VEnv → VR β} : clrK (o :: en) 0 k = k (none :: en) := nrf rfl
theorem clk_s {o : Option (Bool × U)} {i : Nat} {k : VEnv → VR β} : clrK (o :: en) (i + 1) k = clrK en i fun e => k (o :: e) := nrf rfl
theorem bw_nm {i : Nat} {own : List Nat} {u : U} {k : VEnv → VR β} : (bindW (.nm i) own en u).bind k = wipeK en own fun en => setK en i false u k := nrf rfl
theorem bw_tp {is own : List Nat} {u : U} {k : VEnv → VR β} : (bindW (.tp is) own en u).bind k = (unpU is.length u).bind fun us => wipeK en own fun en => setsK en is us k := by
  show ((unpU is.length u).bind _).bind k = _
  rw [bind_as]; rfl
/-- .. by its text -/
noncomputable def compS (C : Nat → List U → VR U) (tg : Tg) (own : List Nat) (en : VEnv) (c e : E) (xs : List U) : VR (List U) := compV (bindW tg own en) (fun en' => (evV C c en').bind truU) (fun en' => evV C e en') xs
theorem y_comp {own : List Nat} {tg : Tg} {it : NL.It} {c e : E} {k : U → VR β} : (evV C (.comp own tg it c e) en).bind k = (evVt C it en).bind fun p => if p.1.length ≤ sizeLine then (noXV (compS C tg own en c e p.1)).bind fun us => k (.lst us) else .stuck := r_comp
theorem c_cons {tg : Tg} {own : List Nat} {c e : E} {x : U} {xs : List U} {k : List U → VR β} : (compS C tg own en c e (x :: xs)).bind k = (bindW tg own en x).bind fun en1 => (evV C c en1).bind fun y => (truU y).bind fun t => if t = true then (evV C e en1).bind fun u => (compS C tg own en c e xs).bind fun r => k (u :: r) else (compS C tg own en c e xs).bind k := by
  unfold compS
  rw [compV, bind_as]; congr; funext en; rw [bind_as, bind_as]; congr; funext y; congr; funext t; rw [ite_bi, bind_as]; congr; funext u; rw [bind_as]; rfl
theorem c_end {tg : Tg} {own : List Nat} {c e : E} {k : List U → VR β} : (compS C tg own en c e []).bind k = k [] := nrf rfl
/-! loops by their text -/
noncomputable def forS (fr : Nat → Bool) (C : Nat → List U → VR U) (tg : Tg) (b : Sts) (xs : List U) (en : VEnv) : VR VF := forV (bindV tg) (fun en' => exVB fr C b en') xs en
noncomputable def whlS (fr : Nat → Bool) (C : Nat → List U → VR U) (c : E) (b : Sts) (n : Nat) (en : VEnv) : VR VF := whlV (fun en' => (evV C c en').bind truU) (fun en' => exVB fr C b en') n en
noncomputable def forKS {β : Type} (fr : Nat → Bool) (C : Nat → List U → VR U) (tg : Tg) (b : Sts) (xs : List U) (k : VF → VR β) : VF → VR β := forK (bindV tg) (fun en' => exVB fr C b en') xs k
noncomputable def whKS {β : Type} (fr : Nat → Bool) (C : Nat → List U → VR U) (c : E) (b : Sts) (n : Nat) (k : VF → VR β) : VF → VR β := whK (fun en' => (evV C c en').bind truU) (fun en' => exVB fr C b en') n k
section
variable {k : VF → VR β} {tg : Tg} {b : Sts} {x : U} {xs : List U}
theorem z_for {e : E} : (exV fr C (.for_ tg (.val e) b) en).bind k = (evV C e en).bind fun u => (iterU u).bind fun p => wK fr e u p en fun en => (forS fr C tg b p.1 en).bind k := y_for
theorem z_for1 {e : E} : (exV fr C (.for_ tg (.rng1 e) b) en).bind k = (evVt C (.rng1 e) en).bind fun p => (forS fr C tg b p.1 en).bind k := x_for1
theorem z_for2 {e e' : E} : (exV fr C (.for_ tg (.rng2 e e') b) en).bind k = (evVt C (.rng2 e e') en).bind fun p => (forS fr C tg b p.1 en).bind k := x_for2
theorem zf_nil : (forS fr C tg b [] en).bind k = k (.nx en) := nrf rfl
theorem zf_cons : (forS fr C tg b (x :: xs) en).bind k = (bindV tg x en).bind fun en1 => (exVB fr C b en1).bind (forKS fr C tg b xs k) := f_cons
theorem zk_nx : forKS fr C tg b xs k (.nx en) = (forS fr C tg b xs en).bind k := nrf rfl
theorem zk_ct : forKS fr C tg b xs k (.cnt en) = (forS fr C tg b xs en).bind k := nrf rfl
theorem zk_bk : forKS fr C tg b xs k (.brk en) = k (.nx en) := nrf rfl
theorem zk_rt {w : Bool} {u : U} : forKS fr C tg b xs k (.ret w u) = k (.ret w u) := nrf rfl
theorem z_whl {c : E} : (exV fr C (.whl c b) en).bind k = (whlS fr C c b fuel en).bind k := x_whl
theorem zw_succ {c : E} {n : Nat} : (whlS fr C c b (n + 1) en).bind k = (evV C c en).bind fun x => (truU x).bind fun t => if t = true then (exVB fr C b en).bind (whKS fr C c b n k) else k (.nx en) := w_succ
theorem zw_nx {c : E} {n : Nat} : whKS fr C c b n k (.nx en) = (whlS fr C c b n en).bind k := nrf rfl
theorem zw_ct {c : E} {n : Nat} : whKS fr C c b n k (.cnt en) = (whlS fr C c b n en).bind k := nrf rfl
theorem zw_bk {c : E} {n : Nat} : whKS fr C c b n k (.brk en) = k (.nx en) := nrf rfl
theorem zw_rt {c : E} {n : Nat} {w : Bool} {u : U} : whKS fr C c b n k (.ret w u) = k (.ret w u) := nrf rfl
noncomputable def seqS {β : Type} (fr : Nat → Bool) (C : Nat → List U → VR U) (r : Sts) (k : VF → VR β) : VF → VR β := seqK (fun en => (exVB fr C r en).bind k) k
theorem z_cons {s : NL.St} {r : Sts} : (exVB fr C (.cons s r) en).bind k = (exV fr C s en).bind (seqS fr C r k) := x_cons
theorem zs_nx {r : Sts} : seqS fr C r k (.nx en) = (exVB fr C r en).bind k := nrf rfl
theorem zs_rt {r : Sts} {w : Bool} {u : U} : seqS fr C r k (.ret w u) = k (.ret w u) := nrf rfl
theorem zs_bk {r : Sts} : seqS fr C r k (.brk en) = k (.brk en) := nrf rfl
theorem zs_ct {r : Sts} : seqS fr C r k (.cnt en) = k (.cnt en) := nrf rfl
end
/-! named continuations: nothing runs before its value stands -/
section
variable {k : VF → VR β} {q : U → VR β}
def pS {β : Type} (fr : Nat → Bool) (e : E) (i : Nat) (u : U) (en : VEnv) (k : VF → VR β) : VR β := pK fr e i u en fun en => k (.nx en)
theorem ps_n {e : E} {i : Nat} {u : U} [h : NoL u] : pS fr e i u en k = setK en i false u fun en => k (.nx en) := p_n
theorem ps_l {e : E} {i : Nat} {us : List U} [f : FrE fr e] [h : NoLs us] : pS fr e i (.lst us) en k = setK en i true (.lst us) fun en => k (.nx en) := p_l
theorem ps_s {e : E} {i : Nat} {us : List U} [f : NfE fr e] : pS fr e i (.lst us) en k = unE e en fun en => setK en i false (.lst us) fun en => k (.nx en) := p_s
theorem z_set {i : Nat} {e : E} : (exV fr C (.set i e) en).bind k = (evV C e en).bind fun u => pS fr e i u en k := y_set
def uS {β : Type} (e : E) (is : List Nat) (us : List U) (en : VEnv) (k : VF → VR β) : VR β := uK e us en fun en => setsK en is us fun en => k (.nx en)
theorem us_n {e : E} {is : List Nat} {us : List U} [h : NoLs us] : uS e is us en k = setsK en is us fun en => k (.nx en) := uk_n
theorem z_unp {is : List Nat} {e : E} : (exV fr C (.unp is e) en).bind k = (evV C e en).bind fun u => (unpU is.length u).bind fun us => uS e is us en k := y_unp
def aS {β : Type} (e : E) (i : Nat) (u : U) (en : VEnv) (k : VF → VR β) : VR β := aK e u en fun en => ownK en i fun us => if us.length < sizeLine then setK en i true (.lst (us ++ [u])) fun en => k (.nx en) else .stuck
theorem as_n {e : E} {i : Nat} {u : U} [h : NoL u] : aS e i u en k = ownK en i fun us => if us.length < sizeLine then setK en i true (.lst (us ++ [u])) fun en => k (.nx en) else .stuck := ak_n
theorem as_l {e : E} {i : Nat} {vs : List U} : aS e i (.lst vs) en k = unE e en fun en => ownK en i fun us => if us.length < sizeLine then setK en i true (.lst (us ++ [.lst vs])) fun en => k (.nx en) else .stuck := ak_l
theorem z_app {i : Nat} {e : E} : (exV fr C (.app i e) en).bind k = ownK en i fun _ => (evV C e en).bind fun u => aS e i u en k := y_app
noncomputable def wS {β : Type} (fr : Nat → Bool) (C : Nat → List U → VR U) (tg : Tg) (b : Sts) (e : E) (u : U) (p : List U × Bool) (en : VEnv) (k : VF → VR β) : VR β := wK fr e u p en fun en => (forS fr C tg b p.1 en).bind k
theorem ws_T {tg : Tg} {b : Sts} {e : E} {u : U} {xs : List U} [h : NoLs xs] : wS fr C tg b e u (xs, false) en k = (forS fr C tg b xs en).bind k := wk_T
theorem ws_F {tg : Tg} {b : Sts} {e : E} {us xs : List U} [f : FrE fr e] [h : NoLs xs] : wS fr C tg b e (.lst us) (xs, true) en k = (forS fr C tg b xs en).bind k := wk_F
theorem ws_S {tg : Tg} {b : Sts} {e : E} {us xs : List U} [f : NfE fr e] : wS fr C tg b e (.lst us) (xs, true) en k = unE e en fun en => (forS fr C tg b xs en).bind k := wk_S
theorem ws_Z {tg : Tg} {b : Sts} {e : E} {us xs : List U} : wS fr C tg b e (.frz us) (xs, true) en k = unE e en fun en => (forS fr C tg b xs en).bind k := wk_Z
theorem zz_for {tg : Tg} {b : Sts} {e : E} : (exV fr C (.for_ tg (.val e) b) en).bind k = (evV C e en).bind fun u => (iterU u).bind fun p => wS fr C tg b e u p en k := z_for
noncomputable def ifS {β : Type} (fr : Nat → Bool) (C : Nat → List U → VR U) (a b : Sts) (en : VEnv) (k : VF → VR β) (x : U) : VR β := (truU x).bind fun t => if t = true then (exVB fr C a en).bind k else (exVB fr C b en).bind k
theorem if_b {a b : Sts} {t : Bool} : ifS fr C a b en k (.bl t) = if t = true then (exVB fr C a en).bind k else (exVB fr C b en).bind k := nrf rfl
theorem z_if {c : E} {a b : Sts} : (exV fr C (.ifs c a b) en).bind k = (evV C c en).bind (ifS fr C a b en k) := x_if
noncomputable def anS {β : Type} (C : Nat → List U → VR U) (b : E) (en : VEnv) (k : U → VR β) (x : U) : VR β := (truU x).bind fun t => if t = true then (evV C b en).bind k else k (.bl false)
theorem an_b {b : E} {t : Bool} : anS C b en q (.bl t) = if t = true then (evV C b en).bind q else q (.bl false) := nrf rfl
theorem z_and {a b : E} : (evV C (.and a b) en).bind q = (evV C a en).bind (anS C b en q) := r_and
noncomputable def orS {β : Type} (C : Nat → List U → VR U) (b : E) (en : VEnv) (k : U → VR β) (x : U) : VR β := (truU x).bind fun t => if t = true then k (.bl true) else (evV C b en).bind k
theorem or_b {b : E} {t : Bool} : orS C b en q (.bl t) = if t = true then q (.bl true) else (evV C b en).bind q := nrf rfl
theorem z_or {a b : E} : (evV C (.or a b) en).bind q = (evV C a en).bind (orS C b en q) := r_or
noncomputable def itS {β : Type} (C : Nat → List U → VR U) (a b : E) (en : VEnv) (k : U → VR β) (x : U) : VR β := (truU x).bind fun t => if t = true then (evV C a en).bind k else (evV C b en).bind k
theorem it_b {a b : E} {t : Bool} : itS C a b en q (.bl t) = if t = true then (evV C a en).bind q else (evV C b en).bind q := nrf rfl
theorem z_ite {c a b : E} : (evV C (.ite c a b) en).bind q = (evV C c en).bind (itS C a b en q) := r_ite
noncomputable def chS {β : Type} (C : Nat → List U → VR U) (o : Cop) (c : E) (en : VEnv) (k : U → VR β) (y z : U) : VR β := (truU z).bind fun t => if t = true then (evV C c en).bind fun z => (cmpU o y z).bind k else k (.bl false)
theorem ch_b {o : Cop} {c : E} {y : U} {t : Bool} : chS C o c en q y (.bl t) = if t = true then (evV C c en).bind fun z => (cmpU o y z).bind q else q (.bl false) := nrf rfl
theorem z_chn {o o' : Cop} {a b c : E} : (evV C (.chn o o' a b c) en).bind q = (evV C a en).bind fun x => (evV C b en).bind fun y => (cmpU o x y).bind (chS C o' c en q y) := r_chn
end
section
variable {α : Type} {f : α → U} {tg : Tg} {b : Sts}
theorem fors_ix (P : Nat → VEnv → Prop) {xs : List α} {en : VEnv} (h : P 0 en)
    (k : ∀ i x, xs[i]? = some x → ∀ en, P i en → ∃ en1 en2, bindV tg (f x) en = .ok en1 ∧ (exVB fr C b en1 = .ok (.nx en2) ∨ exVB fr C b en1 = .ok (.cnt en2)) ∧ P (i + 1) en2) : ∃ en', forS fr C tg b (xs.map f) en = .ok (.nx en') ∧ P xs.length en' := by
  obtain ⟨en', h1, h2⟩ := for_ix (bnd := bindV tg) (b := fun en' => exVB fr C b en') (f := f) P (xs := xs) (j := 0) h (fun i x hx en hp => by
    rw [Nat.zero_add] at hp ⊢
    exact k i x hx en hp)
  exact ⟨en', h1, by rw [Nat.zero_add] at h2; exact h2⟩
theorem fors_inv {σ : Type} (P : σ → VEnv → Prop) (step : σ → α → σ) {xs : List α} {s : σ} {en : VEnv} (h : P s en)
    (k : ∀ x ∈ xs, ∀ s en, P s en → ∃ en1 en2, bindV tg (f x) en = .ok en1 ∧ (exVB fr C b en1 = .ok (.nx en2) ∨ exVB fr C b en1 = .ok (.cnt en2)) ∧ P (step s x) en2) : ∃ en', forS fr C tg b (xs.map f) en = .ok (.nx en') ∧ P (xs.foldl step s) en' :=
  for_inv (bnd := bindV tg) (b := fun en' => exVB fr C b en') P step h k
theorem fors_find (P : VEnv → Prop) (p : α → Bool) (r : α → VF) (hr : ∀ x, ∃ w u, r x = .ret w u) {xs : List α} {en : VEnv} (h : P en)
    (k : ∀ x ∈ xs, ∀ en, P en → ∃ en1, bindV tg (f x) en = .ok en1 ∧ (p x = true → exVB fr C b en1 = .ok (r x)) ∧ (p x = false → ∃ en2, (exVB fr C b en1 = .ok (.nx en2) ∨ exVB fr C b en1 = .ok (.cnt en2)) ∧ P en2)) :
    (∃ x, xs.find? p = some x ∧ forS fr C tg b (xs.map f) en = .ok (r x)) ∨ (xs.find? p = none ∧ ∃ en', forS fr C tg b (xs.map f) en = .ok (.nx en') ∧ P en') :=
  for_find (bnd := bindV tg) (b := fun en' => exVB fr C b en') P p r hr h k
theorem comps_fm {own : List Nat} {c e : E} (p : α → Bool) (g : α → U) {xs : List α} (h : ∀ x ∈ xs, ∃ en1, bindW tg own en (f x) = .ok en1 ∧ (evV C c en1).bind truU = .ok (p x) ∧ (p x = true → evV C e en1 = .ok (g x))) : compS C tg own en c e (xs.map f) = .ok ((xs.filter p).map g) :=
  comp_fm (bnd := bindW tg own en) (c := fun en' => (evV C c en').bind truU) (e := fun en' => evV C e en') p g h
end
end
/-- how a call is told -/
theorem call_run {T : Nat → Option Fn} {fr : Nat → Bool} {n i : Nat} {fn : Fn} {us : List U} (w : Bool) (hn : n ≠ 0) (hT : T i = some fn) (hw : fr i = w) (hl : us.length = fn.np) : callV T fr n i us = (exVB fr (callV T fr (n - 1)) fn.body (us.map (fun u => some (false, u)) ++ List.replicate (fn.nv - fn.np) none)).bind (retK w) := by
  rw [call_eq hn hT, run_eq hl, hw]
end VL

/-! Least of places. -/
namespace VL
open PySem PySem.Spec PyProof.Rows L2 NL GM
/-- a comprehension, run by itself -/
theorem nox_run {α β : Type} {r : VR α} {a : α} {k : α → VR β} {z : VR β} (h : r.bind VR.ok = .ok a) (h2 : k a = z) : (noXV r).bind k = z := by
  rw [bind_id] at h
  rw [h]; exact h2
theorem bi_run {α β : Type} {r : VR α} {a : α} {k : α → VR β} {z : VR β} (h : r = .ok a) (h2 : k a = z) : r.bind k = z := by rw [h]; exact h2
theorem ltP_no {a m : Pt} (h : ltP a m = false) : ¬ lx a m := by rw [ltP_lx] at h; exact of_decide_eq_false h
theorem min3 (ax ay bx by_ cx cy : Int) : ∃ mx my : Int, ((mx = ax ∧ my = ay) ∨ (mx = bx ∧ my = by_) ∨ (mx = cx ∧ my = cy)) ∧ (¬ lxP ax ay mx my ∧ ¬ lxP bx by_ mx my ∧ ¬ lxP cx cy mx my) ∧
    ∀ {β : Type} {q : U → VR β}, (bltU .min [.tup [.int ax, .int ay], .tup [.int bx, .int by_], .tup [.int cx, .int cy]]).bind q = q (.tup [.int mx, .int my]) := by
  obtain ⟨m, hm, e, hl⟩ := best_min od_pt (by omega) tot_pt (xs := [(ax, ay), (bx, by_), (cx, cy)]) (by simp)
  refine ⟨m.1, m.2, ?_, ⟨ltP_no (hl (ax, ay) (by simp)), ltP_no (hl (bx, by_) (by simp)), ltP_no (hl (cx, cy) (by simp))⟩, ?_⟩
  · simp only [List.mem_cons, List.not_mem_nil, or_false] at hm
    rcases hm with rfl | rfl | rfl
    · exact .inl ⟨rfl, rfl⟩
    · exact .inr (.inl ⟨rfl, rfl⟩)
    · exact .inr (.inr ⟨rfl, rfl⟩)
  · intro β q
    show (optU (bestU .lt ([(ax, ay), (bx, by_), (cx, cy)].map ptU))).bind q = _
    rw [e]; rfl
theorem min4 (ax ay bx by_ cx cy dx dy : Int) : ∃ mx my : Int, ((mx = ax ∧ my = ay) ∨ (mx = bx ∧ my = by_) ∨ (mx = cx ∧ my = cy) ∨ (mx = dx ∧ my = dy)) ∧ (¬ lxP ax ay mx my ∧ ¬ lxP bx by_ mx my ∧ ¬ lxP cx cy mx my ∧ ¬ lxP dx dy mx my) ∧
    ∀ {β : Type} {q : U → VR β}, (bltU .min [.tup [.int ax, .int ay], .tup [.int bx, .int by_], .tup [.int cx, .int cy], .tup [.int dx, .int dy]]).bind q = q (.tup [.int mx, .int my]) := by
  obtain ⟨m, hm, e, hl⟩ := best_min od_pt (by omega) tot_pt (xs := [(ax, ay), (bx, by_), (cx, cy), (dx, dy)]) (by simp)
  refine ⟨m.1, m.2, ?_, ⟨ltP_no (hl (ax, ay) (by simp)), ltP_no (hl (bx, by_) (by simp)), ltP_no (hl (cx, cy) (by simp)), ltP_no (hl (dx, dy) (by simp))⟩, ?_⟩
  · simp only [List.mem_cons, List.not_mem_nil, or_false] at hm
    rcases hm with rfl | rfl | rfl | rfl
    · exact .inl ⟨rfl, rfl⟩
    · exact .inr (.inl ⟨rfl, rfl⟩)
    · exact .inr (.inr (.inl ⟨rfl, rfl⟩))
    · exact .inr (.inr (.inr ⟨rfl, rfl⟩))
  · intro β q
    show (optU (bestU .lt ([(ax, ay), (bx, by_), (cx, cy), (dx, dy)].map ptU))).bind q = _
    rw [e]; rfl
theorem lx_trans {a b m n x y : Int} (h : ¬ lxP x y m n) (h2 : lxP a b m n) : lxP a b x y := by unfold lxP at *; omega
theorem lx_tot {a b m n : Int} (h : ¬ lxP a b m n) (h2 : ¬ (a = m ∧ b = n)) : lxP m n a b := by unfold lxP at *; omega
theorem lx_least {ax ay bx by_ cx cy mx my dx dy : Int} (hm : (mx = ax ∧ my = ay) ∨ (mx = bx ∧ my = by_) ∨ (mx = cx ∧ my = cy)) (l1 : ¬ lxP ax ay mx my) (l2 : ¬ lxP bx by_ mx my) (l3 : ¬ lxP cx cy mx my) :
    (lxP dx dy ax ay ∧ lxP dx dy bx by_ ∧ lxP dx dy cx cy) ↔ lxP dx dy mx my := by
  constructor
  · rintro ⟨h1, h2, h3⟩
    rcases hm with ⟨rfl, rfl⟩ | ⟨rfl, rfl⟩ | ⟨rfl, rfl⟩
    · exact h1
    · exact h2
    · exact h3
  · intro h
    exact ⟨lx_trans l1 h, lx_trans l2 h, lx_trans l3 h⟩
end VL

/-! More rules: slices, membership, least of two numbers. -/
namespace VL
open PySem PySem.Spec PyProof.Rows L2 NL GM
theorem cut_from (xs : List U) (k : Nat) : cutU xs (some (k : Int)) none = xs.drop k := by
  unfold cutU
  rw [HT.sIx_nat, HT.sIx_none]
  by_cases h : k ≤ xs.length
  · rw [Nat.min_eq_left h, List.take_of_length_le (by rw [List.length_drop]; omega)]
  · rw [Nat.min_eq_right (by omega), List.drop_eq_nil_of_le (Nat.le_refl _), List.drop_eq_nil_of_le (by omega)]; simp
theorem cut_to (xs : List U) (k : Nat) : cutU xs none (some (k : Int)) = xs.take k := by
  unfold cutU
  rw [HT.sIx_nat, HT.sIx_none]
  simp
theorem cut_mid (xs : List U) (i j : Nat) : cutU xs (some (i : Int)) (some (j : Int)) = (xs.take j).drop i := by
  unfold cutU
  rw [HT.sIx_nat, HT.sIx_nat]
  apply List.ext_getElem?
  intro m
  simp only [List.getElem?_take, List.getElem?_drop]
  by_cases h1 : m < min j xs.length - min i xs.length
  · rw [if_pos h1, if_pos (by omega), Nat.min_eq_left (by omega)]
  · rw [if_neg h1]
    split
    · exact (List.getElem?_eq_none (by omega)).symm
    · rfl
section
variable {β : Type} {k : U → VR β}
theorem o_f1 {xs : List U} : (slcU (.lst xs) (some 1) none).bind k = k (.lst (xs.drop 1)) := by rw [← cut_from]; rfl
theorem o_f2 {xs : List U} : (slcU (.lst xs) (some 2) none).bind k = k (.lst (xs.drop 2)) := by rw [← cut_from]; rfl
theorem o_f3 {xs : List U} : (slcU (.lst xs) (some 3) none).bind k = k (.lst (xs.drop 3)) := by rw [← cut_from]; rfl
theorem o_fn {xs : List U} {n : Nat} : (slcU (.lst xs) (some (n : Int)) none).bind k = k (.lst (xs.drop n)) := by rw [← cut_from]; rfl
theorem o_t1 {xs : List U} : (slcU (.lst xs) none (some 1)).bind k = k (.lst (xs.take 1)) := by rw [← cut_to]; rfl
theorem o_t2 {xs : List U} : (slcU (.lst xs) none (some 2)).bind k = k (.lst (xs.take 2)) := by rw [← cut_to]; rfl
theorem o_tn {xs : List U} {n : Nat} : (slcU (.lst xs) none (some (n : Int))).bind k = k (.lst (xs.take n)) := by rw [← cut_to]; rfl
theorem o_mn2 {i j : Int} : (bltU .min [.int i, .int j]).bind k = k (.int (if j < i then j else i)) := by
  obtain ⟨m, hm, e, hl⟩ := best_min od_int (by omega) tot_int (xs := [i, j]) (by simp)
  show (optU (bestU .lt ([i, j].map U.int))).bind k = _
  rw [e]
  show k (.int m) = _
  have h1 := hl i (by simp)
  have h2 := hl j (by simp)
  unfold ltI at h1 h2
  have h1 := of_decide_eq_false h1
  have h2 := of_decide_eq_false h2
  congr 2
  simp only [List.mem_cons, List.not_mem_nil, or_false] at hm
  split <;> omega
theorem o_mx2 {i j : Int} : (bltU .max [.int i, .int j]).bind k = k (.int (if i < j then j else i)) := by
  have ho : ∀ x y : Int, ordU .gt 12 (.int x) (.int y) = some (decide (y < x)) := fun x y => rfl
  show (optU (bestU .gt [.int i, .int j])).bind k = _
  have e : bestU .gt [.int i, .int j] = some (.int (if i < j then j else i)) := by
    unfold bestU
    rw [if_pos (by simp [ho])]
    show ([U.int i, U.int j])[argBest _ 1]? = _
    unfold argBest argBest
    simp only [List.getD_cons_zero, List.getD_cons_succ, ho, Option.getD_some, decide_eq_true_eq]
    split <;> rfl
  rw [e]; rfl
theorem o_inP {a b : Int} {ps : List Pt} : (cmpU .isIn (.tup [.int a, .int b]) (.lst (ps.map ptU))).bind k = k (.bl (decide ((a, b) ∈ ps))) := o_inG ((in_ls (f := ptU) (by omega) (a, b) ps).trans (by congr 1; exact decide_eq_decide.mpr Iff.rfl))
theorem o_niP {a b : Int} {ps : List Pt} : (cmpU .notIn (.tup [.int a, .int b]) (.lst (ps.map ptU))).bind k = k (.bl (!decide ((a, b) ∈ ps))) := o_niG ((in_ls (f := ptU) (by omega) (a, b) ps).trans (by congr 1; exact decide_eq_decide.mpr Iff.rfl))
theorem o_eq0 {α : Type} [DecidableEq α] {f : α → U} {d : Nat} {p : α → PyData} [t : Tl α f d p] {xs : List α} (h : d ≤ 11) : (cmpU .eq (.lst (xs.map f)) (.lst [])).bind k = k (.bl (decide (xs = []))) := o_eqG (eq_ls (f := f) h xs [])
theorem o_ne0 {α : Type} [DecidableEq α] {f : α → U} {d : Nat} {p : α → PyData} [t : Tl α f d p] {xs : List α} (h : d ≤ 11) : (cmpU .ne (.lst (xs.map f)) (.lst [])).bind k = k (.bl (!decide (xs = []))) := o_neG (eq_ls (f := f) h xs [])
theorem o_eqL {α : Type} [DecidableEq α] {f : α → U} {d : Nat} {p : α → PyData} [t : Tl α f d p] {xs ys : List α} (h : d ≤ 11) : (cmpU .eq (.lst (xs.map f)) (.lst (ys.map f))).bind k = k (.bl (decide (xs = ys))) := o_eqG (eq_ls (f := f) h xs ys)
theorem o_neL {α : Type} [DecidableEq α] {f : α → U} {d : Nat} {p : α → PyData} [t : Tl α f d p] {xs ys : List α} (h : d ≤ 11) : (cmpU .ne (.lst (xs.map f)) (.lst (ys.map f))).bind k = k (.bl (!decide (xs = ys))) := o_neG (eq_ls (f := f) h xs ys)
theorem o_e00 : (cmpU .eq (.lst []) (.lst [])).bind k = k (.bl true) := nrf rfl
theorem o_n00 : (cmpU .ne (.lst []) (.lst [])).bind k = k (.bl false) := nrf rfl
end
theorem bi_ex {α β : Type} {r : VR α} {P : α → Prop} {k : α → VR β} {z : VR β} (h : ∃ a, r = .ok a ∧ P a) (h2 : ∀ a, P a → k a = z) : r.bind k = z := by
  obtain ⟨a, e, p⟩ := h
  rw [e]; exact h2 a p
theorem filter_nil' {α : Type} {p : α → Bool} {xs : List α} (h : ∀ x ∈ xs, p x = false) : xs.filter p = [] := List.filter_eq_nil_iff.mpr fun x hx z => by rw [h x hx] at z; cases z
end VL

/-! sorted, on symbols. -/
namespace VL
open PySem PySem.Spec PyProof.Rows L2 NL GM
mutual
theorem noRef_to : ∀ {u : U}, noL u = true → NL.noRef (toD u) = true
  | .non, _ => by unfold toD NL.noRef; rfl
  | .bl _, _ => by unfold toD NL.noRef; rfl
  | .int _, _ => by unfold toD NL.noRef; rfl
  | .str _, _ => by unfold toD NL.noRef; rfl
  | .tup xs, h => by
    unfold noL at h
    unfold toD NL.noRef
    exact noRefs_to h
  | .lst _, h => by unfold noL at h; cases h
  | .frz _, h => by unfold noL at h; cases h
theorem noRefs_to : ∀ {us : List U}, noLs us = true → NL.noRefs (toDs us) = true
  | [], _ => by unfold toDs NL.noRefs; rfl
  | u :: us, h => by
    unfold noLs at h
    rw [Bool.and_eq_true] at h
    unfold toDs NL.noRefs
    rw [noRef_to h.1, noRefs_to h.2]; rfl
end
theorem ins_map {α β : Type} {l : α → α → Bool} {m : β → β → Bool} {g : α → β} (h : ∀ x y, m (g x) (g y) = l x y) (x : α) : ∀ ys : List α, ins m (g x) (ys.map g) = (ins l x ys).map g
  | [] => rfl
  | y :: ys => by
    rw [List.map_cons]
    unfold ins
    rw [h]
    split
    · rw [List.map_cons, ins_map h x ys]
    · rfl
theorem srt_map {α β : Type} {l : α → α → Bool} {m : β → β → Bool} {g : α → β} (h : ∀ x y, m (g x) (g y) = l x y) : ∀ xs : List α, srt m (xs.map g) = (srt l xs).map g
  | [] => rfl
  | x :: xs => by
    rw [List.map_cons]
    unfold srt
    rw [srt_map h xs, ins_map h]
theorem sort_ty {α : Type} [DecidableEq α] {f : α → U} {d : Nat} {lt : α → α → Bool} (o : Od f d lt) (hd : d ≤ 12) (t : Tot lt) (hn : ∀ x, noL (f x) = true) (hk : (∃ g : α → Int, ∀ x, toD (f x) = .int (g x)) ∨ ∃ b, ∀ x, firstT (toD (f x)) = some b) (xs : List α) :
    sortU (xs.map f) = .ok (.lst ((srt lt xs).map f)) := by
  have hl : noLs (xs.map f) = true := noLs_all.mpr fun u hu => by
    obtain ⟨x, _, rfl⟩ := List.mem_map.mp hu
    exact hn x
  have od : ∀ x y, ordD .lt 12 (toD (f x)) (toD (f y)) = some (lt x y) := fun x y => by
    rw [ord_rd (B := fun _ => False) (S := []) .lt 12 _ _ _ _ (rd_to (hn x)) (rd_to (hn y)), o.od 12 x y hd]
  have lt_eq : ∀ x y, ltD (toD (f x)) (toD (f y)) = lt x y := fun x y => by unfold ltD; rw [od]; rfl
  have ok : OrdOk (xs.map fun x => toD (f x)) := by
    refine ⟨fun a ha b hb => ?_, ?_, fun a ha => ?_, fun a ha => ?_, fun a ha b hb c hc h1 h2 => ?_, fun a ha b hb ne => ?_⟩
    · obtain ⟨x, _, rfl⟩ := List.mem_map.mp ha
      obtain ⟨y, _, rfl⟩ := List.mem_map.mp hb
      rw [od]; rfl
    · rcases hk with ⟨g, hg⟩ | ⟨b, hb⟩
      · refine .inl ⟨xs.map g, ?_⟩
        rw [List.map_map]
        exact List.map_congr_left fun x _ => hg x
      · refine .inr ⟨b, fun a ha => ?_⟩
        obtain ⟨x, _, rfl⟩ := List.mem_map.mp ha
        exact hb x
    · obtain ⟨x, _, rfl⟩ := List.mem_map.mp ha
      exact noRef_to (hn x)
    · obtain ⟨x, _, rfl⟩ := List.mem_map.mp ha
      rw [lt_eq]; exact t.ir x
    · obtain ⟨x, _, rfl⟩ := List.mem_map.mp ha
      obtain ⟨y, _, rfl⟩ := List.mem_map.mp hb
      obtain ⟨z, _, rfl⟩ := List.mem_map.mp hc
      rw [lt_eq] at *
      exact t.tr x y z h1 h2
    · obtain ⟨x, _, rfl⟩ := List.mem_map.mp ha
      obtain ⟨y, _, rfl⟩ := List.mem_map.mp hb
      rw [lt_eq, lt_eq]
      exact t.tt x y fun e => ne (by rw [e])
  unfold sortU
  rw [if_pos hl, List.map_map]
  have e : sortD (xs.map (toD ∘ f)) = some (srt ltD (xs.map (toD ∘ f))) := if_pos ok
  rw [e]
  show VR.ok (U.lst (List.map bkD (srt ltD (xs.map (toD ∘ f))))) = _
  rw [srt_map (l := lt) (g := toD ∘ f) (fun x y => lt_eq x y), List.map_map]
  congr 2
  exact List.map_congr_left fun x _ => of_to (hn x)
section
variable {β : Type} {k : U → VR β}
theorem o_srt {α : Type} {f : α → U} {lt : α → α → Bool} (h : ∀ xs : List α, sortU (xs.map f) = .ok (.lst ((srt lt xs).map f))) {xs : List α} : (bltU .sorted [.lst (xs.map f)]).bind k = k (.lst ((srt lt xs).map f)) := by
  show (sortU (xs.map f)).bind k = _
  rw [h]; rfl
theorem o_srtI {xs : List Int} : (bltU .sorted [.lst (xs.map U.int)]).bind k = k (.lst ((srt ltI xs).map U.int)) := o_srt (sort_ty od_int (by omega) tot_int (fun x => NoL.no) (.inl ⟨id, fun x => by unfold toD; rfl⟩))
theorem o_srtP {xs : List Pt} : (bltU .sorted [.lst (xs.map ptU)]).bind k = k (.lst ((srt ltP xs).map ptU)) := o_srt (sort_ty od_pt (by omega) tot_pt (fun x => NoL.no) (.inr ⟨true, fun x => by simp [toD, toDs, firstT]⟩))
theorem o_srtS {xs : List Sd} : (bltU .sorted [.lst (xs.map sdU)]).bind k = k (.lst ((srt ltS xs).map sdU)) := o_srt (sort_ty od_sd (by omega) tot_sd (fun x => NoL.no) (.inr ⟨false, fun x => by simp [toD, toDs, firstT]⟩))
theorem o_srtT {xs : List Tr} : (bltU .sorted [.lst (xs.map trU)]).bind k = k (.lst ((srt ltT xs).map trU)) := o_srt (sort_ty od_trg (by omega) tot_trg (fun x => NoL.no) (.inr ⟨false, fun x => by simp [toD, toDs, firstT]⟩))
end
instance fre_sorted {fr : Nat → Bool} {es : Es} : FrE fr (.blt .sorted es) := ⟨by unfold freshE newB; rfl⟩
theorem srt_mem {α : Type} {lt : α → α → Bool} {x : α} {xs : List α} : x ∈ srt lt xs ↔ x ∈ xs := (srt_perm xs).mem_iff
theorem srt_ord {α : Type} [DecidableEq α] {lt : α → α → Bool} (t : Tot lt) (xs : List α) : (srt lt xs).Pairwise fun a b => lt b a = false :=
  srt_srtd (lt := lt) (P := fun _ => True) (fun x y _ _ h => t.as h) (fun x y z _ _ _ h k => t.le_tr h k) xs fun _ _ => trivial
/-- another order of the same: the same -/
theorem srt_uniq {α : Type} [DecidableEq α] {lt : α → α → Bool} (t : Tot lt) {xs ys : List α} (p : xs.Perm ys) : srt lt xs = srt lt ys :=
  perm_uniq (((srt_perm xs).trans p).trans (srt_perm ys).symm) (fun x _ y _ ne => t.tt x y ne) (srt_ord t xs) (srt_ord t ys)
end VL

/-! Two places: not behind, the lesser, the greater; sides alike; big numbers. -/
namespace VL
open PySem PySem.Spec PyProof.Rows L2 NL GM
theorem ord_pt2 {o : Cop} {k : Nat} {a b c d : Int} : ordU o (k + 1) (.tup [.int a, .int b]) (.tup [.int c, .int d]) = some (if a = c then (if b = d then ord4 o 0 0 else ord4 o b d) else ord4 o a c) := by
  have e1 := eqT_tl (f := U.int) (by omega) a c
  have e2 := eqT_tl (f := U.int) (by omega) b d
  have oi : ∀ (x y : Int), ordU o k (.int x) (.int y) = some (ord4 o x y) := fun x y => by cases k <;> rfl
  unfold ordU
  have hall : ([U.int a, U.int b].zip [U.int c, U.int d]).all (ordC (ordU o k)) = true := by
    simp only [ordC, List.zip_cons_cons, List.zip_nil_right, List.all_cons, List.all_nil, Bool.and_true, e1, e2, oi]
    cases decide (a = c) <;> cases decide (b = d) <;> rfl
  rw [if_pos hall, lexU_cons e1, lexU_last e2, oi, oi]
  by_cases h1 : a = c
  · rw [if_pos (by simpa using h1), if_pos h1]
    by_cases h2 : b = d
    · rw [if_pos (by simpa using h2), if_pos h2]
    · rw [if_neg (by simpa using h2), if_neg h2]
  · rw [if_neg (by simpa using h1), if_neg h1]
theorem ord_leP {a b c d : Int} : ordU .le 12 (.tup [.int a, .int b]) (.tup [.int c, .int d]) = some (decide (¬ lxP c d a b)) := by
  rw [ord_pt2 (k := 11)]
  congr 1
  unfold lxP
  by_cases h1 : a = c
  · by_cases h2 : b = d
    · rw [if_pos h1, if_pos h2]; simp [ord4, h1, h2]
    · rw [if_pos h1, if_neg h2]
      show decide (b ≤ d) = _
      exact decide_eq_decide.mpr (by omega)
  · rw [if_neg h1]
    show decide (a ≤ c) = _
    exact decide_eq_decide.mpr (by omega)
theorem ord_gtP {a b c d : Int} : ordU .gt 12 (.tup [.int a, .int b]) (.tup [.int c, .int d]) = some (decide (lxP c d a b)) := by
  rw [ord_pt2 (k := 11)]
  congr 1
  unfold lxP
  by_cases h1 : a = c
  · by_cases h2 : b = d
    · rw [if_pos h1, if_pos h2]; simp [ord4, h1, h2]
    · rw [if_pos h1, if_neg h2]
      show decide (d < b) = _
      exact decide_eq_decide.mpr (by omega)
  · rw [if_neg h1]
    show decide (c < a) = _
    exact decide_eq_decide.mpr (by omega)
section
variable {β : Type} {k : U → VR β}
theorem o_leP {a b c d : Int} : (cmpU .le (.tup [.int a, .int b]) (.tup [.int c, .int d])).bind k = k (.bl (decide (¬ lxP c d a b))) := by
  show (ofU (ordU .le 12 _ _)).bind k = _
  rw [ord_leP]; rfl
theorem o_mnP2 {a b c d : Int} : (bltU .min [.tup [.int a, .int b], .tup [.int c, .int d]]).bind k = if lxP c d a b then k (.tup [.int c, .int d]) else k (.tup [.int a, .int b]) := by
  have ho : ∀ x y z w : Int, ordU .lt 12 (.tup [.int x, .int y]) (.tup [.int z, .int w]) = some (decide (lxP x y z w)) := fun x y z w => (od_pt.od 12 (x, y) (z, w) (by omega)).trans (by rw [ltP_lx])
  show (optU (bestU .lt [.tup [.int a, .int b], .tup [.int c, .int d]])).bind k = _
  have e : bestU .lt [.tup [.int a, .int b], .tup [.int c, .int d]] = some (if lxP c d a b then .tup [.int c, .int d] else .tup [.int a, .int b]) := by
    unfold bestU
    rw [if_pos (by simp [ho])]
    show ([U.tup [.int a, .int b], U.tup [.int c, .int d]])[argBest _ 1]? = _
    unfold argBest argBest
    simp only [List.getD_cons_zero, List.getD_cons_succ, ho, Option.getD_some, decide_eq_true_eq]
    split <;> rfl
  rw [e]
  split <;> rfl
theorem o_mxP2 {a b c d : Int} : (bltU .max [.tup [.int a, .int b], .tup [.int c, .int d]]).bind k = if lxP a b c d then k (.tup [.int c, .int d]) else k (.tup [.int a, .int b]) := by
  show (optU (bestU .gt [.tup [.int a, .int b], .tup [.int c, .int d]])).bind k = _
  have e : bestU .gt [.tup [.int a, .int b], .tup [.int c, .int d]] = some (if lxP a b c d then .tup [.int c, .int d] else .tup [.int a, .int b]) := by
    unfold bestU
    rw [if_pos (by simp [ord_gtP])]
    show ([U.tup [.int a, .int b], U.tup [.int c, .int d]])[argBest _ 1]? = _
    unfold argBest argBest
    simp only [List.getD_cons_zero, List.getD_cons_succ, ord_gtP, Option.getD_some, decide_eq_true_eq]
    split <;> rfl
  rw [e]
  split <;> rfl
theorem o_eqS {a b c d a' b' c' d' : Int} : (cmpU .eq (.tup [.tup [.int a, .int b], .tup [.int c, .int d]]) (.tup [.tup [.int a', .int b'], .tup [.int c', .int d']])).bind k = k (.bl (decide ((a = a' ∧ b = b') ∧ (c = c' ∧ d = d')))) :=
  o_eqG ((eq_tl (f := sdU) (by omega) ((a, b), (c, d)) ((a', b'), (c', d'))).trans (by congr 1; exact decide_eq_decide.mpr (by simp [Prod.ext_iff])))
end
/-! big numbers of the laws -/
@[irreducible] def K8 : Int := 29477480947986319589215679678287935361
theorem K8_eq : K8 = 48271 ^ 8 := by unfold K8; decide +kernel
@[irreducible] def K7 : Int := 7928331467292760530673834318599741
theorem K7_eq : K7 = 69621 ^ 7 := by unfold K7; decide +kernel
instance sz_k8 : Sz 125 K8 := ⟨by rw [K8_eq]; decide +kernel⟩
instance sz_k7 : Sz 113 K7 := ⟨by rw [K7_eq]; decide +kernel⟩
section
variable {β : Type} {k : U → VR β}
theorem o_k8 : (binU .pow (.int 48271) (.int 8)).bind k = k (.int K8) := (o_pow ⟨by decide, by decide +kernel⟩).trans (by rw [show ((48271 : Int) ^ (8 : Int).toNat) = K8 by rw [K8_eq]; rfl])
theorem o_k7 : (binU .pow (.int 69621) (.int 7)).bind k = k (.int K7) := (o_pow ⟨by decide, by decide +kernel⟩).trans (by rw [show ((69621 : Int) ^ (7 : Int).toNat) = K7 by rw [K7_eq]; rfl])
end
instance pz_m1 : Pz 170141183460469231731687303715884105727 := ⟨by decide⟩
instance pz_m2 : Pz 162259276829213363391578010288127 := ⟨by decide⟩
instance sz_m1 : Sz 127 170141183460469231731687303715884105727 := ⟨by decide +kernel⟩
instance sz_m2 : Sz 107 162259276829213363391578010288127 := ⟨by decide +kernel⟩
end VL

/-! Sides that meet: by turns, and by how far along. -/
namespace GM
theorem sgn_mul {W x : Int} (h : 0 < W) : (0 < x ∧ 0 < W * x) ∨ (x = 0 ∧ W * x = 0) ∨ (x < 0 ∧ W * x < 0) := by
  rcases Int.lt_trichotomy x 0 with z | z | z
  · exact .inr (.inr ⟨z, Int.mul_neg_of_pos_of_neg h z⟩)
  · exact .inr (.inl ⟨z, by rw [z, Int.mul_zero]⟩)
  · exact .inl ⟨z, Int.mul_pos h z⟩
theorem sgn_mul' {x B : Int} (h : 0 < B) : (0 < x ∧ 0 < x * B) ∨ (x = 0 ∧ x * B = 0) ∨ (x < 0 ∧ x * B < 0) := by
  rw [Int.mul_comm]; exact sgn_mul h
/-- the bare numbers: T1 .. T4 turns, B, D lengths in order, g how far the second one begins behind the first -/
theorem meet_core {T1 T2 T3 T4 W B D g : Int} (hW : 0 < W) (w1 : W = T2 - T1) (w2 : W = T3 - T4) (hB : 0 < B) (hD : 0 < D) (e : W * g = T3 * B + T1 * D) :
    ((0 < B - g ∧ 0 < g + D ∧ ((T1 = 0 ∧ 0 < g ∧ 0 < B - g) ∨ (T2 = 0 ∧ 0 < g + D ∧ 0 < B - g - D) ∨ (T3 = 0 ∧ 0 < -g ∧ 0 < g + D) ∨ (T4 = 0 ∧ 0 < B - g ∧ 0 < g + D - B) ∨ (((0 < T1 ∧ T2 < 0) ∨ (T1 < 0 ∧ 0 < T2)) ∧ ((0 < T3 ∧ T4 < 0) ∨ (T3 < 0 ∧ 0 < T4))))) ↔
    (0 ≤ T3 ∧ T4 ≤ 0 ∧ T1 ≤ 0 ∧ 0 ≤ T2 ∧ ¬ ((T3 = 0 ∨ T4 = 0) ∧ (T1 = 0 ∨ T2 = 0)))) := by
  have q1 : W * (B - g) = -(T4 * B) - T1 * D := by
    rw [Int.mul_sub, e, w2, Int.sub_mul]; omega
  have q2 : W * (g + D) = T3 * B + T2 * D := by
    rw [Int.mul_add, e]
    have : W * D = T2 * D - T1 * D := by rw [w1, Int.sub_mul]
    omega
  have q3 : W * (B - g - D) = -(T4 * B) - T2 * D := by
    rw [Int.mul_sub, q1]
    have : W * D = T2 * D - T1 * D := by rw [w1, Int.sub_mul]
    omega
  have s0 := sgn_mul (x := g) hW
  have s1 := sgn_mul (x := B - g) hW
  have s2 := sgn_mul (x := g + D) hW
  have s3 := sgn_mul (x := B - g - D) hW
  rw [e] at s0
  rw [q1] at s1
  rw [q2] at s2
  rw [q3] at s3
  have t1 := sgn_mul' (x := T1) hD
  have t2 := sgn_mul' (x := T2) hD
  have t3 := sgn_mul' (x := T3) hB
  have t4 := sgn_mul' (x := T4) hB
  clear e q1 q2 q3
  generalize T1 * D = P1 at *
  generalize T2 * D = P2 at *
  generalize T3 * B = P3 at *
  generalize T4 * B = P4 at *
  rcases t1 with t1 | t1 | t1 <;> rcases t3 with t3 | t3 | t3 <;> rcases t2 with t2 | t2 | t2 <;> rcases t4 with t4 | t4 | t4 <;> first | (exfalso; omega) | omega
/-- the order of places by one number -/
theorem lxL (P : List Pt) : ∃ M : Int, ∀ p ∈ P, ∀ q ∈ P, (lx p q ↔ M * p.1 + p.2 < M * q.1 + q.2) := by
  obtain ⟨R, hR, hb⟩ := bound (fun p : Pt => (p.2.natAbs : Int)) P
  refine ⟨2 * R + 1, fun p hp q hq => ?_⟩
  have b1 : (p.2.natAbs : Int) ≤ R := hb p hp
  have b2 : (q.2.natAbs : Int) ≤ R := hb q hq
  have key : ∀ {x y : Int}, x < y → (2 * R + 1) * x + (2 * R + 1) ≤ (2 * R + 1) * y := fun {x y} h => by
    have : (2 * R + 1) * (x + 1) ≤ (2 * R + 1) * y := Int.mul_le_mul_of_nonneg_left (by omega) (by omega)
    rw [Int.mul_add, Int.mul_one] at this
    exact this
  unfold lx lxP
  constructor
  · rintro (h | ⟨h, k⟩)
    · have := key h; omega
    · rw [h]; omega
  · intro h
    rcases Int.lt_trichotomy p.1 q.1 with z | z | z
    · exact .inl z
    · rw [z] at h; exact .inr ⟨z, by omega⟩
    · have := key z; omega
def btw (a b c : Pt) : Prop := tw a b c = 0 ∧ ((lx a c ∧ lx c b) ∨ (lx b c ∧ lx c a))
instance {a b c : Pt} : Decidable (btw a b c) := by unfold btw; infer_instance
/-- two sides meet -/
def meetP (a b c d : Pt) : Prop := (a = c ∧ b = d) ∨ (lx c b ∧ lx a d ∧ (btw a b c ∨ btw a b d ∨ btw c d a ∨ btw c d b ∨ (sg (tw a b c) * sg (tw a b d) < 0 ∧ sg (tw c d a) * sg (tw c d b) < 0)))
instance {a b c d : Pt} : Decidable (meetP a b c d) := by unfold meetP; infer_instance
/-- .. by how far along -/
def farP (W H T : Int) : Prop := 0 ≤ H ∧ H ≤ W ∧ 0 ≤ T ∧ T ≤ W ∧ ((H ≠ 0 ∧ H ≠ W) ∨ (T ≠ 0 ∧ T ≠ W))
instance {W H T : Int} : Decidable (farP W H T) := by unfold farP; infer_instance
theorem wide_eq (a b c d : Pt) : (b.1 - a.1) * (d.2 - c.2) - (b.2 - a.2) * (d.1 - c.1) = tw a b d - tw a b c ∧ (b.1 - a.1) * (d.2 - c.2) - (b.2 - a.2) * (d.1 - c.1) = tw c d a - tw c d b := by
  unfold tw twV
  constructor <;> grind
theorem vec_eq (M : Int) (a b c d : Pt) : (tw a b d - tw a b c) * (M * c.1 + c.2 - (M * a.1 + a.2)) = tw c d a * (M * b.1 + b.2 - (M * a.1 + a.2)) + tw a b c * (M * d.1 + d.2 - (M * c.1 + c.2)) := by
  unfold tw twV; grind
theorem meet_far {a b c d : Pt} (hab : lx a b) (hcd : lx c d) : meetP a b c d ↔
    (if tw a b d - tw a b c = 0 then tw a b c = 0 ∧ lx a d ∧ lx c b else if tw a b d - tw a b c < 0 then farP (-(tw a b d - tw a b c)) (-tw c d a) (tw a b c) else farP (tw a b d - tw a b c) (tw c d a) (-tw a b c)) := by
  obtain ⟨M, hM⟩ := lxL [a, b, c, d]
  have w1 := wide_eq a b c d
  have w2 : tw a b d - tw a b c = tw c d a - tw c d b := by omega
  have ve := vec_eq M a b c d
  have l : ∀ {p q : Pt}, p ∈ [a, b, c, d] → q ∈ [a, b, c, d] → (lx p q ↔ 0 < M * q.1 + q.2 - (M * p.1 + p.2)) := fun hp hq => (hM _ hp _ hq).trans (by omega)
  have lab := l (p := a) (q := b) (by simp) (by simp)
  have lcd := l (p := c) (q := d) (by simp) (by simp)
  have lac := l (p := a) (q := c) (by simp) (by simp)
  have lca := l (p := c) (q := a) (by simp) (by simp)
  have lcb := l (p := c) (q := b) (by simp) (by simp)
  have lbc := l (p := b) (q := c) (by simp) (by simp)
  have lad := l (p := a) (q := d) (by simp) (by simp)
  have lda := l (p := d) (q := a) (by simp) (by simp)
  have ldb := l (p := d) (q := b) (by simp) (by simp)
  have lbd := l (p := b) (q := d) (by simp) (by simp)
  have eac : a = c → M * a.1 + a.2 = M * c.1 + c.2 := fun e => by rw [e]
  have ebd : b = d → M * b.1 + b.2 = M * d.1 + d.2 := fun e => by rw [e]
  have nac : a ≠ c → lx a c ∨ lx c a := lx_or
  have nbd : b ≠ d → lx b d ∨ lx d b := lx_or
  have hB := lab.mp hab
  have hD := lcd.mp hcd
  unfold meetP btw
  rw [sg_iff, sg_iff]
  rw [lac, lca] at nac
  rw [lbd, ldb] at nbd
  rw [lac, lcb, lbc, lca, lad, ldb, lbd, lda]
  have e1 : a = c ∧ b = d → tw a b d - tw a b c = 0 := fun ⟨e, f⟩ => by rw [← e, ← f, tw_aba, tw_abb]; rfl
  have zac : a = c → tw a b c = 0 := fun e => by rw [← e, tw_aba]
  generalize tw a b c = T1 at *
  generalize tw a b d = T2 at *
  generalize tw c d a = T3 at *
  generalize tw c d b = T4 at *
  generalize M * a.1 + a.2 = A at *
  generalize M * b.1 + b.2 = B at *
  generalize M * c.1 + c.2 = C at *
  generalize M * d.1 + d.2 = D at *
  clear lab lcd lac lca lcb lbc lad lda ldb lbd hM w1 l hab hcd
  by_cases hW : T2 - T1 = 0
  · rw [if_pos hW]
    rw [hW, Int.zero_mul] at ve
    have t1 := sgn_mul' (x := T1) hD
    have t3 := sgn_mul' (x := T3) hB
    generalize T1 * (D - C) = P1 at *
    generalize T3 * (B - A) = P3 at *
    by_cases ac : a = c
    · by_cases bd : b = d
      · have := eac ac
        have := ebd bd
        -- one side, twice
        constructor
        · intro _; exact ⟨zac ac, by omega, by omega⟩
        · intro _; exact .inl ⟨ac, bd⟩
      · have := eac ac
        have := nbd bd
        constructor
        · rintro (z | z)
          · exact absurd z.2 bd
          · exact ⟨by omega, by omega, by omega⟩
        · intro z; exact .inr ⟨by omega, by omega, by omega⟩
    · have := nac ac
      constructor
      · rintro (z | z)
        · exact absurd z.1 ac
        · exact ⟨by omega, by omega, by omega⟩
      · intro z; exact .inr ⟨by omega, by omega, by omega⟩
  · rw [if_neg hW]
    have ne : ¬ (a = c ∧ b = d) := fun z => hW (e1 z)
    by_cases hN : T2 - T1 < 0
    · rw [if_pos hN]
      have m := meet_core (T1 := -T1) (T2 := -T2) (T3 := -T3) (T4 := -T4) (W := -(T2 - T1)) (B := B - A) (D := D - C) (g := C - A) (by omega) (by omega) (by omega) hB hD (by rw [Int.neg_mul, ve, Int.neg_mul, Int.neg_mul]; omega)
      unfold farP
      constructor
      · rintro (z | z)
        · exact absurd z ne
        · have := m.mp (by omega); omega
      · intro z
        have := m.mpr (by omega)
        exact .inr (by omega)
    · rw [if_neg hN]
      have m := meet_core (T1 := T1) (T2 := T2) (T3 := T3) (T4 := T4) (W := T2 - T1) (B := B - A) (D := D - C) (g := C - A) (by omega) (by omega) (by omega) hB hD ve
      unfold farP
      constructor
      · rintro (z | z)
        · exact absurd z ne
        · have := m.mp (by omega); omega
      · intro z
        have := m.mpr (by omega)
        exact .inr (by omega)
end GM

namespace VL
open PySem PySem.Spec PyProof.Rows L2 NL GM
def top (i : Nat) : Stmt := PySem.Challenge.pw_nearland_k53_sides_that_meet.main.body.getD i (.Pass ⟨0, 0, 0, 0⟩)
-- 0: twice(a, b, c); 0 a, 1 b, 2 c
def f0 : Fn := ⟨3, 3, (.cons (.ret (.bin .sub (.bin .mul (.bin .sub (.idx (.var 1) (.con (.int 0))) (.idx (.var 0) (.con (.int 0)))) (.bin .sub (.idx (.var 2) (.con (.int 1))) (.idx (.var 0) (.con (.int 1))))) (.bin .mul (.bin .sub (.idx (.var 1) (.con (.int 1))) (.idx (.var 0) (.con (.int 1)))) (.bin .sub (.idx (.var 2) (.con (.int 0))) (.idx (.var 0) (.con (.int 0))))))) .nil)⟩
abbrev e0 : Ent := ⟨"twice", top 1, ["a", "b", "c"], ["a", "b", "c"], f0⟩
-- 1: sign_of(number); 0 number
def f1 : Fn := ⟨1, 1, (.cons (.ifs (.cmp .gt (.var 0) (.con (.int 0))) (.cons (.ret (.con (.int 1))) .nil) .nil) (.cons (.ifs (.cmp .lt (.var 0) (.con (.int 0))) (.cons (.ret (.neg (.con (.int 1)))) .nil) .nil) (.cons (.ret (.con (.int 0))) .nil)))⟩
abbrev e1 : Ent := ⟨"sign_of", top 2, ["number"], ["number"], f1⟩
-- 2: turn(a, b, c); 0 a, 1 b, 2 c
def f2 : Fn := ⟨3, 3, (.cons (.ret (.call 1 (.cons (.call 0 (.cons (.var 0) (.cons (.var 1) (.cons (.var 2) .nil)))) .nil))) .nil)⟩
abbrev e2 : Ent := ⟨"turn", top 3, ["a", "b", "c"], ["a", "b", "c"], f2⟩
-- 3: between(a, b, c); 0 a, 1 b, 2 c
def f3 : Fn := ⟨3, 3, (.cons (.ifs (.cmp .ne (.call 0 (.cons (.var 0) (.cons (.var 1) (.cons (.var 2) .nil)))) (.con (.int 0))) (.cons (.ret (.con (.bl false))) .nil) .nil) (.cons (.ret (.or (.and (.cmp .lt (.var 0) (.var 2)) (.cmp .lt (.var 2) (.var 1))) (.and (.cmp .lt (.var 1) (.var 2)) (.cmp .lt (.var 2) (.var 0))))) .nil))⟩
abbrev e3 : Ent := ⟨"between", top 4, ["a", "b", "c"], ["a", "b", "c"], f3⟩
-- 4: meets(one, other); 0 one, 1 other, 2 a, 3 b, 4 c, 5 d
def f4 : Fn := ⟨2, 6, (.cons (.ifs (.cmp .eq (.var 0) (.var 1)) (.cons (.ret (.con (.bl true))) .nil) .nil) (.cons (.unp [2, 3] (.var 0)) (.cons (.unp [4, 5] (.var 1)) (.cons (.ifs (.or (.cmp .le (.var 3) (.var 4)) (.cmp .le (.var 5) (.var 2))) (.cons (.ret (.con (.bl false))) .nil) .nil) (.cons (.ifs (.or (.call 3 (.cons (.var 2) (.cons (.var 3) (.cons (.var 4) .nil)))) (.or (.call 3 (.cons (.var 2) (.cons (.var 3) (.cons (.var 5) .nil)))) (.or (.call 3 (.cons (.var 4) (.cons (.var 5) (.cons (.var 2) .nil)))) (.call 3 (.cons (.var 4) (.cons (.var 5) (.cons (.var 3) .nil))))))) (.cons (.ret (.con (.bl true))) .nil) .nil) (.cons (.ret (.and (.cmp .lt (.bin .mul (.call 2 (.cons (.var 2) (.cons (.var 3) (.cons (.var 4) .nil)))) (.call 2 (.cons (.var 2) (.cons (.var 3) (.cons (.var 5) .nil))))) (.con (.int 0))) (.cmp .lt (.bin .mul (.call 2 (.cons (.var 4) (.cons (.var 5) (.cons (.var 2) .nil)))) (.call 2 (.cons (.var 4) (.cons (.var 5) (.cons (.var 3) .nil))))) (.con (.int 0))))) .nil))))))⟩
abbrev e4 : Ent := ⟨"meets", top 6, ["one", "other", "a", "b", "c", "d"], ["one", "other"], f4⟩
-- 5: _law_at(_law_script, _law_k); 0 _law_script, 1 _law_k
def f5 : Fn := ⟨2, 2, (.cons (.ret (.idx (.bin .add (.slc true true (.var 0) (.var 1) (.bin .add (.var 1) (.con (.int 1)))) (.lst (.cons (.con (.int 0)) .nil))) (.con (.int 0)))) .nil)⟩
abbrev e5 : Ent := ⟨"_law_at", top 8, ["_law_script", "_law_k"], ["_law_script", "_law_k"], f5⟩
-- 6: _law_spot(_law_kind, _law_cell, _law_head); 0 _law_kind, 1 _law_cell, 2 _law_head, 3 _law_five, 4 _law_times, 5 _law_x, 6 _law_y
def f6 : Fn := ⟨3, 7, (.cons (.ifs (.cmp .gt (.var 0) (.con (.int 5))) (.cons (.set 0 (.idx (.lst (.cons (.con (.int 0)) (.cons (.con (.int 3)) (.cons (.con (.int 0)) (.cons (.con (.int 5)) .nil))))) (.bin .add (.bin .mul (.con (.int 2)) (.bin .sub (.var 0) (.con (.int 6)))) (.bin .mod (.bin .fdiv (.var 1) (.con (.int 16))) (.con (.int 2)))))) .nil) .nil) (.cons (.ifs (.cmp .eq (.var 0) (.con (.int 1))) (.cons (.ret (.tup (.cons (.bin .add (.bin .mod (.var 1) (.con (.int 3))) (.bin .pow (.con (.int 10)) (.con (.int 30)))) (.cons (.bin .sub (.bin .mod (.bin .fdiv (.var 1) (.con (.int 3))) (.con (.int 3))) (.bin .pow (.con (.int 10)) (.con (.int 30)))) .nil)))) .nil) .nil) (.cons (.ifs (.cmp .eq (.var 0) (.con (.int 2))) (.cons (.set 3 (.lst (.cons (.tup (.cons (.con (.int 5)) (.cons (.con (.int 0)) .nil))) (.cons (.tup (.cons (.con (.int 4)) (.cons (.con (.int 3)) .nil))) (.cons (.tup (.cons (.con (.int 3)) (.cons (.con (.int 4)) .nil))) (.cons (.tup (.cons (.con (.int 0)) (.cons (.con (.int 5)) .nil))) (.cons (.tup (.cons (.neg (.con (.int 3))) (.cons (.con (.int 4)) .nil))) (.cons (.tup (.cons (.neg (.con (.int 4))) (.cons (.con (.int 3)) .nil))) (.cons (.tup (.cons (.neg (.con (.int 5))) (.cons (.con (.int 0)) .nil))) .nil))))))))) (.cons (.set 3 (.bin .add (.var 3) (.lst (.cons (.tup (.cons (.neg (.con (.int 4))) (.cons (.neg (.con (.int 3))) .nil))) (.cons (.tup (.cons (.neg (.con (.int 3))) (.cons (.neg (.con (.int 4))) .nil))) (.cons (.tup (.cons (.con (.int 0)) (.cons (.neg (.con (.int 5))) .nil))) (.cons (.tup (.cons (.con (.int 3)) (.cons (.neg (.con (.int 4))) .nil))) (.cons (.tup (.cons (.con (.int 4)) (.cons (.neg (.con (.int 3))) .nil))) (.cons (.tup (.cons (.con (.int 0)) (.cons (.con (.int 0)) .nil))) .nil))))))))) (.cons (.unp [5, 6] (.idx (.var 3) (.bin .mod (.var 1) (.con (.int 13))))) (.cons (.set 4 (.bin .mul (.bin .add (.con (.int 1)) (.bin .mod (.var 2) (.con (.int 1009)))) (.bin .add (.con (.int 1)) (.bin .mod (.bin .fdiv (.var 1) (.con (.int 13))) (.con (.int 2)))))) (.cons (.ret (.tup (.cons (.bin .add (.bin .mul (.var 5) (.var 4)) (.bin .mod (.bin .fdiv (.var 2) (.con (.int 1009))) (.bin .pow (.con (.int 10)) (.con (.int 30))))) (.cons (.bin .sub (.bin .mul (.var 6) (.var 4)) (.bin .mod (.bin .fdiv (.var 2) (.con (.int 2003))) (.bin .pow (.con (.int 10)) (.con (.int 30))))) .nil)))) .nil))))) .nil) (.cons (.ifs (.cmp .eq (.var 0) (.con (.int 3))) (.cons (.set 5 (.bin .sub (.bin .mod (.var 1) (.con (.int 11))) (.con (.int 5)))) (.cons (.ret (.tup (.cons (.var 5) (.cons (.bin .add (.bin .mul (.con (.int 2)) (.var 5)) (.bin .mul (.bin .fdiv (.bin .mod (.bin .fdiv (.var 1) (.con (.int 11))) (.con (.int 3))) (.con (.int 2))) (.bin .add (.con (.int 1)) (.bin .mod (.bin .fdiv (.var 1) (.con (.int 33))) (.con (.int 4)))))) .nil)))) .nil)) .nil) (.cons (.ifs (.cmp .eq (.var 0) (.con (.int 4))) (.cons (.ret (.tup (.cons (.bin .sub (.bin .mod (.bin .mul (.var 1) (.con (.int 48271))) (.con (.int 2003))) (.con (.int 1001))) (.cons (.bin .sub (.bin .mod (.bin .mul (.var 1) (.con (.int 69621))) (.con (.int 1999))) (.con (.int 999))) .nil)))) .nil) .nil) (.cons (.ifs (.cmp .eq (.var 0) (.con (.int 5))) (.cons (.set 5 (.bin .mod (.bin .mul (.var 1) (.bin .pow (.con (.int 48271)) (.con (.int 8)))) (.con (.int 170141183460469231731687303715884105727)))) (.cons (.ret (.tup (.cons (.bin .sub (.var 5) (.bin .pow (.con (.int 10)) (.con (.int 38)))) (.cons (.bin .sub (.bin .pow (.con (.int 10)) (.con (.int 30))) (.bin .mod (.bin .mul (.var 1) (.bin .pow (.con (.int 69621)) (.con (.int 7)))) (.con (.int 162259276829213363391578010288127)))) .nil)))) .nil)) .nil) (.cons (.ret (.tup (.cons (.bin .mod (.var 1) (.con (.int 4))) (.cons (.bin .mod (.bin .fdiv (.var 1) (.con (.int 4))) (.con (.int 4))) .nil)))) .nil)))))))⟩
abbrev e6 : Ent := ⟨"_law_spot", top 9, ["_law_kind", "_law_cell", "_law_head", "_law_five", "_law_times", "_law_x", "_law_y"], ["_law_kind", "_law_cell", "_law_head"], f6⟩
-- 7: _law_places(_law_script, _law_most); 0 _law_script, 1 _law_most, 2 _law_some, 3 _law_cell, 4 _law_spot_here
def f7 : Fn := ⟨2, 5, (.cons (.set 2 (.lst .nil)) (.cons (.for_ (.nm 3) (.val (.slc true true (.var 0) (.con (.int 3)) (.bin .add (.con (.int 3)) (.var 1)))) (.cons (.set 4 (.call 6 (.cons (.bin .mod (.call 5 (.cons (.var 0) (.cons (.con (.int 0)) .nil))) (.con (.int 8))) (.cons (.var 3) (.cons (.call 5 (.cons (.var 0) (.cons (.con (.int 2)) .nil))) .nil))))) (.cons (.ifs (.cmp .notIn (.var 4) (.var 2)) (.cons (.app 2 (.var 4)) .nil) .nil) .nil))) (.cons (.ret (.var 2)) .nil)))⟩
abbrev e7 : Ent := ⟨"_law_places", top 10, ["_law_script", "_law_most", "_law_some", "_law_cell", "_law_spot_here"], ["_law_script", "_law_most"], f7⟩
-- 8: _law_cross(_law_p, _law_q, _law_a, _law_b); 0 _law_p, 1 _law_q, 2 _law_a, 3 _law_b
def f8 : Fn := ⟨4, 4, (.cons (.ret (.bin .sub (.bin .mul (.bin .sub (.idx (.var 1) (.con (.int 0))) (.idx (.var 0) (.con (.int 0)))) (.bin .sub (.idx (.var 3) (.con (.int 1))) (.idx (.var 2) (.con (.int 1))))) (.bin .mul (.bin .sub (.idx (.var 1) (.con (.int 1))) (.idx (.var 0) (.con (.int 1)))) (.bin .sub (.idx (.var 3) (.con (.int 0))) (.idx (.var 2) (.con (.int 0))))))) .nil)⟩
abbrev e8 : Ent := ⟨"_law_cross", top 11, ["_law_p", "_law_q", "_law_a", "_law_b"], ["_law_p", "_law_q", "_law_a", "_law_b"], f8⟩
-- 9: _law_meet(_law_one, _law_other); 0 _law_one, 1 _law_other, 2 _law_wide, 3 _law_here, 4 _law_there, 5 _law_a, 6 _law_b, 7 _law_c, 8 _law_d
def f9 : Fn := ⟨2, 9, (.cons (.unp [5, 6] (.var 0)) (.cons (.unp [7, 8] (.var 1)) (.cons (.set 2 (.call 8 (.cons (.var 5) (.cons (.var 6) (.cons (.var 7) (.cons (.var 8) .nil)))))) (.cons (.ifs (.cmp .eq (.var 2) (.con (.int 0))) (.cons (.ret (.and (.cmp .eq (.call 8 (.cons (.var 5) (.cons (.var 6) (.cons (.var 5) (.cons (.var 7) .nil))))) (.con (.int 0))) (.cmp .lt (.blt .max (.cons (.var 5) (.cons (.var 7) .nil))) (.blt .min (.cons (.var 6) (.cons (.var 8) .nil)))))) .nil) .nil) (.cons (.set 3 (.call 8 (.cons (.var 5) (.cons (.var 7) (.cons (.var 7) (.cons (.var 8) .nil)))))) (.cons (.set 4 (.call 8 (.cons (.var 5) (.cons (.var 7) (.cons (.var 5) (.cons (.var 6) .nil)))))) (.cons (.ifs (.cmp .lt (.var 2) (.con (.int 0))) (.cons (.unp [2, 3, 4] (.tup (.cons (.neg (.var 2)) (.cons (.neg (.var 3)) (.cons (.neg (.var 4)) .nil))))) .nil) .nil) (.cons (.ifs (.or (.cmp .lt (.var 3) (.con (.int 0))) (.or (.cmp .gt (.var 3) (.var 2)) (.or (.cmp .lt (.var 4) (.con (.int 0))) (.cmp .gt (.var 4) (.var 2))))) (.cons (.ret (.con (.bl false))) .nil) .nil) (.cons (.ret (.or (.cmp .notIn (.var 3) (.tup (.cons (.con (.int 0)) (.cons (.var 2) .nil)))) (.cmp .notIn (.var 4) (.tup (.cons (.con (.int 0)) (.cons (.var 2) .nil)))))) .nil)))))))))⟩
abbrev e9 : Ent := ⟨"_law_meet", top 12, ["_law_one", "_law_other", "_law_wide", "_law_here", "_law_there", "_law_a", "_law_b", "_law_c", "_law_d"], ["_law_one", "_law_other"], f9⟩
-- 10: law(_law_script); 0 _law_script, 1 _law_places_here, 2 _law_row, 3 _law_sides, 4 _law_one, 5 _law_far, 6 _law_p, 7 _law_other, 8 _law_a, 9 _law_b, 10 _law_k, 11 _law_found
def f10 : Fn := ⟨1, 12, (.cons (.set 1 (.call 7 (.cons (.var 0) (.cons (.bin .add (.con (.int 3)) (.bin .mod (.call 5 (.cons (.var 0) (.cons (.con (.int 1)) .nil))) (.con (.int 2)))) .nil)))) (.cons (.ifs (.and (.cmp .gt (.blt .len (.cons (.var 1) .nil)) (.con (.int 1))) (.cmp .eq (.bin .mod (.bin .fdiv (.call 5 (.cons (.var 0) (.cons (.con (.int 1)) .nil))) (.con (.int 2))) (.con (.int 2))) (.con (.int 1)))) (.cons (.unp [8, 9] (.slc false true (.var 1) (.con .non) (.con (.int 2)))) (.cons (.set 5 (.bin .sub (.bin .mod (.call 5 (.cons (.var 0) (.cons (.con (.int 8)) .nil))) (.con (.int 5))) (.con (.int 2)))) (.cons (.set 6 (.tup (.cons (.bin .add (.idx (.var 8) (.con (.int 0))) (.bin .mul (.var 5) (.bin .sub (.idx (.var 9) (.con (.int 0))) (.idx (.var 8) (.con (.int 0)))))) (.cons (.bin .add (.idx (.var 8) (.con (.int 1))) (.bin .mul (.var 5) (.bin .sub (.idx (.var 9) (.con (.int 1))) (.idx (.var 8) (.con (.int 1)))))) .nil)))) (.cons (.ifs (.cmp .notIn (.var 6) (.var 1)) (.cons (.app 1 (.var 6)) .nil) .nil) .nil)))) .nil) (.cons (.set 2 (.blt .sorted (.cons (.var 1) .nil))) (.cons (.set 3 (.comp [10] (.nm 10) (.rng1 (.con (.int 25))) (.and (.cmp .lt (.bin .mod (.var 10) (.con (.int 5))) (.bin .fdiv (.var 10) (.con (.int 5)))) (.cmp .lt (.bin .fdiv (.var 10) (.con (.int 5))) (.blt .len (.cons (.var 2) .nil)))) (.tup (.cons (.idx (.var 2) (.bin .mod (.var 10) (.con (.int 5)))) (.cons (.idx (.var 2) (.bin .fdiv (.var 10) (.con (.int 5)))) .nil))))) (.cons (.for_ (.nm 4) (.val (.var 3)) (.cons (.for_ (.nm 7) (.val (.var 3)) (.cons (.set 11 (.call 4 (.cons (.var 4) (.cons (.var 7) .nil)))) (.cons (.ifs (.or (.not (.isi (.var 11) .bool)) (.cmp .ne (.var 11) (.call 9 (.cons (.var 4) (.cons (.var 7) .nil))))) (.cons (.ret (.con (.bl false))) .nil) .nil) .nil))) .nil)) (.cons (.ret (.con (.bl true))) .nil))))))⟩
abbrev e10 : Ent := ⟨"law", top 13, ["_law_script", "_law_places_here", "_law_row", "_law_sides", "_law_one", "_law_far", "_law_p", "_law_other", "_law_a", "_law_b", "_law_k", "_law_found"], ["_law_script"], f10⟩
abbrev tab : List Ent := [e0, e1, e2, e3, e4, e5, e6, e7, e8, e9, e10]
theorem ok0 : EOk (ftOf tab) e0 := ⟨rfl, ⟨rfl, rfl, rfl, by decide +kernel, rfl, by decide +kernel, by decide +kernel⟩, rfl, rfl⟩
theorem ok1 : EOk (ftOf tab) e1 := ⟨rfl, ⟨rfl, rfl, rfl, by decide +kernel, rfl, by decide +kernel, by decide +kernel⟩, rfl, rfl⟩
theorem ok2 : EOk (ftOf tab) e2 := ⟨rfl, ⟨rfl, rfl, rfl, by decide +kernel, rfl, by decide +kernel, by decide +kernel⟩, rfl, rfl⟩
theorem ok3 : EOk (ftOf tab) e3 := ⟨rfl, ⟨rfl, rfl, rfl, by decide +kernel, rfl, by decide +kernel, by decide +kernel⟩, rfl, rfl⟩
theorem ok4 : EOk (ftOf tab) e4 := ⟨rfl, ⟨rfl, rfl, rfl, by decide +kernel, rfl, by decide +kernel, by decide +kernel⟩, rfl, rfl⟩
theorem ok5 : EOk (ftOf tab) e5 := ⟨rfl, ⟨rfl, rfl, rfl, by decide +kernel, rfl, by decide +kernel, by decide +kernel⟩, rfl, rfl⟩
theorem ok6 : EOk (ftOf tab) e6 := ⟨rfl, ⟨rfl, rfl, rfl, by decide +kernel, rfl, by decide +kernel, by decide +kernel⟩, rfl, rfl⟩
theorem ok7 : EOk (ftOf tab) e7 := ⟨rfl, ⟨rfl, rfl, rfl, by decide +kernel, rfl, by decide +kernel, by decide +kernel⟩, rfl, rfl⟩
theorem ok8 : EOk (ftOf tab) e8 := ⟨rfl, ⟨rfl, rfl, rfl, by decide +kernel, rfl, by decide +kernel, by decide +kernel⟩, rfl, rfl⟩
theorem ok9 : EOk (ftOf tab) e9 := ⟨rfl, ⟨rfl, rfl, rfl, by decide +kernel, rfl, by decide +kernel, by decide +kernel⟩, rfl, rfl⟩
theorem ok10 : EOk (ftOf tab) e10 := ⟨rfl, ⟨rfl, rfl, rfl, by decide +kernel, rfl, by decide +kernel, by decide +kernel⟩, rfl, rfl⟩
theorem okAll : ∀ (i : Nat) (e : Ent), tab[i]? = some e → EOk (ftOf tab) e
  | 0, _, h => by cases h; exact ok0
  | 1, _, h => by cases h; exact ok1
  | 2, _, h => by cases h; exact ok2
  | 3, _, h => by cases h; exact ok3
  | 4, _, h => by cases h; exact ok4
  | 5, _, h => by cases h; exact ok5
  | 6, _, h => by cases h; exact ok6
  | 7, _, h => by cases h; exact ok7
  | 8, _, h => by cases h; exact ok8
  | 9, _, h => by cases h; exact ok9
  | 10, _, h => by cases h; exact ok10
  | n + 11, _, h => by simp [tab] at h
theorem stands {K : PySem.W.Frag} {h : Heap} {mg : Str → Option Value} (X : K.In h) (G : h.Ns mainGlobals mg)
    {g0 : Addr} {od0 an0 : Option Addr} {sl0 : Array (Option Value)} {oc0 kV0 dc0 pm0 cd0 ct0 : Value} (a0 : PySem.W.nsIn K mainGlobals "twice" = some (some (.ref g0))) (l0 : K.lookup g0 = some ⟨oc0, od0, .func (PySem.W.fnOf "twice" "twice" (defArgs (top 1)) (defBody (top 1)) (defScope (top 1)) .none kV0 dc0 pm0 an0 cd0 ct0), sl0⟩) (c0 : PySem.W.codeIn K cd0 "twice" = true) (k0 : PySem.W.keepIn K (.ref g0) = true)
    {g1 : Addr} {od1 an1 : Option Addr} {sl1 : Array (Option Value)} {oc1 kV1 dc1 pm1 cd1 ct1 : Value} (a1 : PySem.W.nsIn K mainGlobals "sign_of" = some (some (.ref g1))) (l1 : K.lookup g1 = some ⟨oc1, od1, .func (PySem.W.fnOf "sign_of" "sign_of" (defArgs (top 2)) (defBody (top 2)) (defScope (top 2)) .none kV1 dc1 pm1 an1 cd1 ct1), sl1⟩) (c1 : PySem.W.codeIn K cd1 "sign_of" = true) (k1 : PySem.W.keepIn K (.ref g1) = true)
    {g2 : Addr} {od2 an2 : Option Addr} {sl2 : Array (Option Value)} {oc2 kV2 dc2 pm2 cd2 ct2 : Value} (a2 : PySem.W.nsIn K mainGlobals "turn" = some (some (.ref g2))) (l2 : K.lookup g2 = some ⟨oc2, od2, .func (PySem.W.fnOf "turn" "turn" (defArgs (top 3)) (defBody (top 3)) (defScope (top 3)) .none kV2 dc2 pm2 an2 cd2 ct2), sl2⟩) (c2 : PySem.W.codeIn K cd2 "turn" = true) (k2 : PySem.W.keepIn K (.ref g2) = true)
    {g3 : Addr} {od3 an3 : Option Addr} {sl3 : Array (Option Value)} {oc3 kV3 dc3 pm3 cd3 ct3 : Value} (a3 : PySem.W.nsIn K mainGlobals "between" = some (some (.ref g3))) (l3 : K.lookup g3 = some ⟨oc3, od3, .func (PySem.W.fnOf "between" "between" (defArgs (top 4)) (defBody (top 4)) (defScope (top 4)) .none kV3 dc3 pm3 an3 cd3 ct3), sl3⟩) (c3 : PySem.W.codeIn K cd3 "between" = true) (k3 : PySem.W.keepIn K (.ref g3) = true)
    {g4 : Addr} {od4 an4 : Option Addr} {sl4 : Array (Option Value)} {oc4 kV4 dc4 pm4 cd4 ct4 : Value} (a4 : PySem.W.nsIn K mainGlobals "meets" = some (some (.ref g4))) (l4 : K.lookup g4 = some ⟨oc4, od4, .func (PySem.W.fnOf "meets" "meets" (defArgs (top 6)) (defBody (top 6)) (defScope (top 6)) .none kV4 dc4 pm4 an4 cd4 ct4), sl4⟩) (c4 : PySem.W.codeIn K cd4 "meets" = true) (k4 : PySem.W.keepIn K (.ref g4) = true)
    {g5 : Addr} {od5 an5 : Option Addr} {sl5 : Array (Option Value)} {oc5 kV5 dc5 pm5 cd5 ct5 : Value} (a5 : PySem.W.nsIn K mainGlobals "_law_at" = some (some (.ref g5))) (l5 : K.lookup g5 = some ⟨oc5, od5, .func (PySem.W.fnOf "_law_at" "_law_at" (defArgs (top 8)) (defBody (top 8)) (defScope (top 8)) .none kV5 dc5 pm5 an5 cd5 ct5), sl5⟩) (c5 : PySem.W.codeIn K cd5 "_law_at" = true) (k5 : PySem.W.keepIn K (.ref g5) = true)
    {g6 : Addr} {od6 an6 : Option Addr} {sl6 : Array (Option Value)} {oc6 kV6 dc6 pm6 cd6 ct6 : Value} (a6 : PySem.W.nsIn K mainGlobals "_law_spot" = some (some (.ref g6))) (l6 : K.lookup g6 = some ⟨oc6, od6, .func (PySem.W.fnOf "_law_spot" "_law_spot" (defArgs (top 9)) (defBody (top 9)) (defScope (top 9)) .none kV6 dc6 pm6 an6 cd6 ct6), sl6⟩) (c6 : PySem.W.codeIn K cd6 "_law_spot" = true) (k6 : PySem.W.keepIn K (.ref g6) = true)
    {g7 : Addr} {od7 an7 : Option Addr} {sl7 : Array (Option Value)} {oc7 kV7 dc7 pm7 cd7 ct7 : Value} (a7 : PySem.W.nsIn K mainGlobals "_law_places" = some (some (.ref g7))) (l7 : K.lookup g7 = some ⟨oc7, od7, .func (PySem.W.fnOf "_law_places" "_law_places" (defArgs (top 10)) (defBody (top 10)) (defScope (top 10)) .none kV7 dc7 pm7 an7 cd7 ct7), sl7⟩) (c7 : PySem.W.codeIn K cd7 "_law_places" = true) (k7 : PySem.W.keepIn K (.ref g7) = true)
    {g8 : Addr} {od8 an8 : Option Addr} {sl8 : Array (Option Value)} {oc8 kV8 dc8 pm8 cd8 ct8 : Value} (a8 : PySem.W.nsIn K mainGlobals "_law_cross" = some (some (.ref g8))) (l8 : K.lookup g8 = some ⟨oc8, od8, .func (PySem.W.fnOf "_law_cross" "_law_cross" (defArgs (top 11)) (defBody (top 11)) (defScope (top 11)) .none kV8 dc8 pm8 an8 cd8 ct8), sl8⟩) (c8 : PySem.W.codeIn K cd8 "_law_cross" = true) (k8 : PySem.W.keepIn K (.ref g8) = true)
    {g9 : Addr} {od9 an9 : Option Addr} {sl9 : Array (Option Value)} {oc9 kV9 dc9 pm9 cd9 ct9 : Value} (a9 : PySem.W.nsIn K mainGlobals "_law_meet" = some (some (.ref g9))) (l9 : K.lookup g9 = some ⟨oc9, od9, .func (PySem.W.fnOf "_law_meet" "_law_meet" (defArgs (top 12)) (defBody (top 12)) (defScope (top 12)) .none kV9 dc9 pm9 an9 cd9 ct9), sl9⟩) (c9 : PySem.W.codeIn K cd9 "_law_meet" = true) (k9 : PySem.W.keepIn K (.ref g9) = true)
    {g10 : Addr} {od10 an10 : Option Addr} {sl10 : Array (Option Value)} {oc10 kV10 dc10 pm10 cd10 ct10 : Value} (a10 : PySem.W.nsIn K mainGlobals "law" = some (some (.ref g10))) (l10 : K.lookup g10 = some ⟨oc10, od10, .func (PySem.W.fnOf "law" "law" (defArgs (top 13)) (defBody (top 13)) (defScope (top 13)) .none kV10 dc10 pm10 an10 cd10 ct10), sl10⟩) (c10 : PySem.W.codeIn K cd10 "law" = true) (k10 : PySem.W.keepIn K (.ref g10) = true)
    (z0 : PySem.W.nsIn K mainGlobals "abs" = some none)
    (z1 : PySem.W.nsIn K mainGlobals "int" = some none)
    (z2 : PySem.W.nsIn K mainGlobals "len" = some none)
    (z3 : PySem.W.nsIn K mainGlobals "min" = some none)
    (z4 : PySem.W.nsIn K mainGlobals "max" = some none)
    (z5 : PySem.W.nsIn K mainGlobals "list" = some none)
    (z6 : PySem.W.nsIn K mainGlobals "tuple" = some none)
    (z7 : PySem.W.nsIn K mainGlobals "sum" = some none)
    (z8 : PySem.W.nsIn K mainGlobals "sorted" = some none)
    (z9 : PySem.W.nsIn K mainGlobals "isinstance" = some none)
    (z10 : PySem.W.nsIn K mainGlobals "range" = some none)
    (z11 : PySem.W.nsIn K mainGlobals "bool" = some none)
    (z12 : PySem.W.nsIn K mainGlobals "str" = some none)
    : Blts mg ∧ ∀ (i : Nat) (e : Ent), tab[i]? = some e → DIn K mg e := by
  have y0 := PySem.W.mg_none_of X G z0
  have y1 := PySem.W.mg_none_of X G z1
  have y2 := PySem.W.mg_none_of X G z2
  have y3 := PySem.W.mg_none_of X G z3
  have y4 := PySem.W.mg_none_of X G z4
  have y5 := PySem.W.mg_none_of X G z5
  have y6 := PySem.W.mg_none_of X G z6
  have y7 := PySem.W.mg_none_of X G z7
  have y8 := PySem.W.mg_none_of X G z8
  have y9 := PySem.W.mg_none_of X G z9
  have y10 := PySem.W.mg_none_of X G z10
  have y11 := PySem.W.mg_none_of X G z11
  have y12 := PySem.W.mg_none_of X G z12
  refine ⟨⟨fun b => ?_, y9, y10, fun t => ?_⟩, fun i e he => ?_⟩
  · cases b
    · exact y0
    · exact y1
    · exact y2
    · exact y3
    · exact y4
    · exact y5
    · exact y6
    · exact y7
    · exact y8
  · cases t
    · exact y1
    · exact y11
    · exact y6
    · exact y5
    · exact y12
  · match i, e, he with
    | 0, _, h => cases h; exact ⟨g0, _, fun_mk (st := top 1) l0 c0 k0, PySem.W.mg_of X G a0, fun us hl => match us, hl with | [_, _, _], _ => rfl⟩
    | 1, _, h => cases h; exact ⟨g1, _, fun_mk (st := top 2) l1 c1 k1, PySem.W.mg_of X G a1, fun us hl => match us, hl with | [_], _ => rfl⟩
    | 2, _, h => cases h; exact ⟨g2, _, fun_mk (st := top 3) l2 c2 k2, PySem.W.mg_of X G a2, fun us hl => match us, hl with | [_, _, _], _ => rfl⟩
    | 3, _, h => cases h; exact ⟨g3, _, fun_mk (st := top 4) l3 c3 k3, PySem.W.mg_of X G a3, fun us hl => match us, hl with | [_, _, _], _ => rfl⟩
    | 4, _, h => cases h; exact ⟨g4, _, fun_mk (st := top 6) l4 c4 k4, PySem.W.mg_of X G a4, fun us hl => match us, hl with | [_, _], _ => rfl⟩
    | 5, _, h => cases h; exact ⟨g5, _, fun_mk (st := top 8) l5 c5 k5, PySem.W.mg_of X G a5, fun us hl => match us, hl with | [_, _], _ => rfl⟩
    | 6, _, h => cases h; exact ⟨g6, _, fun_mk (st := top 9) l6 c6 k6, PySem.W.mg_of X G a6, fun us hl => match us, hl with | [_, _, _], _ => rfl⟩
    | 7, _, h => cases h; exact ⟨g7, _, fun_mk (st := top 10) l7 c7 k7, PySem.W.mg_of X G a7, fun us hl => match us, hl with | [_, _], _ => rfl⟩
    | 8, _, h => cases h; exact ⟨g8, _, fun_mk (st := top 11) l8 c8 k8, PySem.W.mg_of X G a8, fun us hl => match us, hl with | [_, _, _, _], _ => rfl⟩
    | 9, _, h => cases h; exact ⟨g9, _, fun_mk (st := top 12) l9 c9 k9, PySem.W.mg_of X G a9, fun us hl => match us, hl with | [_, _], _ => rfl⟩
    | 10, _, h => cases h; exact ⟨g10, _, fun_mk (st := top 13) l10 c10 k10, PySem.W.mg_of X G a10, fun us hl => match us, hl with | [_], _ => rfl⟩
    | n + 11, _, h => simp [tab] at h
abbrev T := tabT tab
def F : Nat → Bool := fun i => i == 7
instance fr_0 : FrF F 0 := ⟨rfl⟩
instance fr_1 : FrF F 1 := ⟨rfl⟩
instance fr_2 : FrF F 2 := ⟨rfl⟩
instance fr_3 : FrF F 3 := ⟨rfl⟩
instance fr_4 : FrF F 4 := ⟨rfl⟩
instance fr_5 : FrF F 5 := ⟨rfl⟩
instance fr_6 : FrF F 6 := ⟨rfl⟩
instance fr_7 : FrT F 7 := ⟨rfl⟩
instance fr_8 : FrF F 8 := ⟨rfl⟩
instance fr_9 : FrF F 9 := ⟨rfl⟩
instance fr_10 : FrF F 10 := ⟨rfl⟩
theorem twice_ok {n : Nat} (hn : 1 ≤ n) {ax ay bx by_ cx cy : Int} [Sz 1000 ax] [Sz 1000 ay] [Sz 1000 bx] [Sz 1000 by_] [Sz 1000 cx] [Sz 1000 cy]  : callV T F n 0 [.tup [.int ax, .int ay], .tup [.int bx, .int by_], .tup [.int cx, .int cy]] = .ok (.int (twV ax ay bx by_ cx cy)) := by
  rw [call_run false (by omega) (show T 0 = some f0 from rfl) rfl rfl]
  simp (maxSteps := 10000000) (disch := omega) only [f0, ↓r_var, ↓r_cI, ↓r_cB, ↓r_cN, ↓r_cS, ↓r_bin, ↓r_neg, ↓r_not, ↓r_cmp, ↓z_chn, ↓ch_b, ↓z_and, ↓an_b, ↓z_or, ↓or_b, ↓z_ite, ↓it_b, ↓r_tup, ↓r_lst, ↓r_idx, ↓r_slc, ↓r_call, ↓r_blt, ↓r_isi, ↓y_comp, ↓o_add, ↓o_sub, ↓o_neg, ↓o_mul, ↓o_modP, ↓o_fdivP, ↓o_lt, ↓o_le, ↓o_gt, ↓o_ge, ↓o_eq, ↓o_ne, ↓o_eqB, ↓o_neB, ↓o_isB, ↓o_isNotB, ↓o_isN, ↓o_isNotN, ↓o_ix0, ↓o_ix1, ↓o_ix2, ↓o_lx0, ↓o_lx1, ↓o_lx2, ↓o_lx3, ↓o_lenT, ↓o_lenL, ↓o_lenF, ↓o_listL, ↓o_listT, ↓o_listF, ↓o_tupL, ↓o_abs, ↓o_intI, ↓o_intB, ↓o_isiII, ↓o_isiBB, ↓o_isiTT, ↓o_isiLL, ↓o_ltP, ↓o_leP, ↓o_mnP2, ↓o_mxP2, ↓o_eqS, ↓o_k8, ↓o_k7, ↓o_eqP, ↓o_neP, ↓o_in2, ↓o_in3, ↓bu_f, ↓bu_t, ↓o_f1, ↓o_f2, ↓o_f3, ↓o_t1, ↓o_t2, ↓o_srtI, ↓o_srtP, ↓o_srtS, ↓o_srtT, ↓o_mn2, ↓o_mx2, ↓o_inP, ↓o_niP, ↓o_e00, ↓o_n00, ↓o_eq0, ↓o_ne0, ↓o_eqL, ↓o_neL, ↓r_nil, ↓r_cons, ↓r_tru, ↓i_val_, ↓i_T, ↓i_L, ↓i_F, ↓i_rng1_, ↓i_rng2_, ↓u_2, ↓u_3, ↓u_4, ↓u_l2, ↓u_l3, ↓u_l4, ↓u_n2, ↓u_n3, ↓u_n4, ↓u_nl2, ↓u_nl3, ↓u_nl4, ↓b_nm, ↓b_tp, ↓bw_nm, ↓bw_tp, ↓wip_0, ↓wip_s, ↓clk_0, ↓clk_s, ↓c_cons, ↓c_end, ↓z_set, ↓ps_n, ↓ps_l, ↓ps_s, ↓z_unp, ↓us_n, ↓z_app, ↓as_n, ↓as_l, ↓zz_for, ↓ws_T, ↓ws_F, ↓ws_S, ↓ws_Z, ↓z_for1, ↓z_for2, ↓y_ret, ↓re_n, ↓re_f, ↓re_v, ↓re_c, ↓ob_0, ↓ob_s, ↓x_expr, ↓x_ret0, ↓z_if, ↓if_b, ↓x_brk, ↓x_cnt, ↓x_pass, ↓x_nil, ↓z_cons, ↓x_aug, ↓aug_0, ↓aug_s, ↓toI_k, ↓zs_nx, ↓zs_rt, ↓zs_bk, ↓zs_ct, ↓zf_nil, ↓zf_cons, ↓zk_nx, ↓zk_ct, ↓zk_bk, ↓zk_rt, ↓z_whl, ↓zw_nx, ↓zw_ct, ↓zw_bk, ↓zw_rt, ↓getK_0, ↓getK_s, ↓setK_0, ↓setK_s, ↓setsK_0, ↓setsK_s, ↓ownK_0, ↓ownK_s, ↓llow_0, ↓llow_n, ↓llow_s, ↓un_var, ↓un_con, ↓un_bin, ↓un_cmp, ↓un_idx, ↓un_slc, ↓un_ite, ↓un_call, ↓un_blt, ↓un_tup, ↓un_lst, ↓un_nil, ↓un_cons, ↓rt_n, ↓rt_f, ↓rt_t, ↓rt_nx, ↓ok_bi, ↓reduceIte, List.map_cons, List.map_nil, List.cons_append, List.nil_append, List.replicate, ↓o_pq, ↓o_p10, ↓o_p20, ↓o_p30, ↓o_p38, ↓o_p39, ↓o_p40, ↓o_p59, ↓o_p60, ↓o_p64, sl, List.length_cons, List.length_nil, decide_true, decide_false, Bool.false_eq_true, Bool.not_true, Bool.not_false, decide_eq_true_eq, Int.reduceEq, Int.reduceNe, Int.reduceLT, Int.reduceLE, Int.reduceNeg, Int.reduceAdd, Int.reduceSub, Int.reduceMul, Nat.reduceAdd, Nat.reduceLeDiff, Nat.reduceSub, Nat.reduceMul, Int.reduceToNat, Int.cast_ofNat_Int]
theorem twice_k {n : Nat} (hn : 1 ≤ n) {ax ay bx by_ cx cy : Int} [Sz 1000 ax] [Sz 1000 ay] [Sz 1000 bx] [Sz 1000 by_] [Sz 1000 cx] [Sz 1000 cy]  {β : Type} {q : U → VR β} : (callV T F n 0 [.tup [.int ax, .int ay], .tup [.int bx, .int by_], .tup [.int cx, .int cy]]).bind q = q (.int (twV ax ay bx by_ cx cy)) := bi_of (twice_ok hn)

theorem sign_ok {n : Nat} (hn : 1 ≤ n) {k : Int}  : callV T F n 1 [.int k] = .ok (.int (sg k)) := by
  rw [call_run false (by omega) (show T 1 = some f1 from rfl) rfl rfl]
  simp (maxSteps := 10000000) (disch := omega) only [f1, ↓r_var, ↓r_cI, ↓r_cB, ↓r_cN, ↓r_cS, ↓r_bin, ↓r_neg, ↓r_not, ↓r_cmp, ↓z_chn, ↓ch_b, ↓z_and, ↓an_b, ↓z_or, ↓or_b, ↓z_ite, ↓it_b, ↓r_tup, ↓r_lst, ↓r_idx, ↓r_slc, ↓r_call, ↓r_blt, ↓r_isi, ↓y_comp, ↓o_add, ↓o_sub, ↓o_neg, ↓o_mul, ↓o_modP, ↓o_fdivP, ↓o_lt, ↓o_le, ↓o_gt, ↓o_ge, ↓o_eq, ↓o_ne, ↓o_eqB, ↓o_neB, ↓o_isB, ↓o_isNotB, ↓o_isN, ↓o_isNotN, ↓o_ix0, ↓o_ix1, ↓o_ix2, ↓o_lx0, ↓o_lx1, ↓o_lx2, ↓o_lx3, ↓o_lenT, ↓o_lenL, ↓o_lenF, ↓o_listL, ↓o_listT, ↓o_listF, ↓o_tupL, ↓o_abs, ↓o_intI, ↓o_intB, ↓o_isiII, ↓o_isiBB, ↓o_isiTT, ↓o_isiLL, ↓o_ltP, ↓o_leP, ↓o_mnP2, ↓o_mxP2, ↓o_eqS, ↓o_k8, ↓o_k7, ↓o_eqP, ↓o_neP, ↓o_in2, ↓o_in3, ↓bu_f, ↓bu_t, ↓o_f1, ↓o_f2, ↓o_f3, ↓o_t1, ↓o_t2, ↓o_srtI, ↓o_srtP, ↓o_srtS, ↓o_srtT, ↓o_mn2, ↓o_mx2, ↓o_inP, ↓o_niP, ↓o_e00, ↓o_n00, ↓o_eq0, ↓o_ne0, ↓o_eqL, ↓o_neL, ↓r_nil, ↓r_cons, ↓r_tru, ↓i_val_, ↓i_T, ↓i_L, ↓i_F, ↓i_rng1_, ↓i_rng2_, ↓u_2, ↓u_3, ↓u_4, ↓u_l2, ↓u_l3, ↓u_l4, ↓u_n2, ↓u_n3, ↓u_n4, ↓u_nl2, ↓u_nl3, ↓u_nl4, ↓b_nm, ↓b_tp, ↓bw_nm, ↓bw_tp, ↓wip_0, ↓wip_s, ↓clk_0, ↓clk_s, ↓c_cons, ↓c_end, ↓z_set, ↓ps_n, ↓ps_l, ↓ps_s, ↓z_unp, ↓us_n, ↓z_app, ↓as_n, ↓as_l, ↓zz_for, ↓ws_T, ↓ws_F, ↓ws_S, ↓ws_Z, ↓z_for1, ↓z_for2, ↓y_ret, ↓re_n, ↓re_f, ↓re_v, ↓re_c, ↓ob_0, ↓ob_s, ↓x_expr, ↓x_ret0, ↓z_if, ↓if_b, ↓x_brk, ↓x_cnt, ↓x_pass, ↓x_nil, ↓z_cons, ↓x_aug, ↓aug_0, ↓aug_s, ↓toI_k, ↓zs_nx, ↓zs_rt, ↓zs_bk, ↓zs_ct, ↓zf_nil, ↓zf_cons, ↓zk_nx, ↓zk_ct, ↓zk_bk, ↓zk_rt, ↓z_whl, ↓zw_nx, ↓zw_ct, ↓zw_bk, ↓zw_rt, ↓getK_0, ↓getK_s, ↓setK_0, ↓setK_s, ↓setsK_0, ↓setsK_s, ↓ownK_0, ↓ownK_s, ↓llow_0, ↓llow_n, ↓llow_s, ↓un_var, ↓un_con, ↓un_bin, ↓un_cmp, ↓un_idx, ↓un_slc, ↓un_ite, ↓un_call, ↓un_blt, ↓un_tup, ↓un_lst, ↓un_nil, ↓un_cons, ↓rt_n, ↓rt_f, ↓rt_t, ↓rt_nx, ↓ok_bi, ↓reduceIte, List.map_cons, List.map_nil, List.cons_append, List.nil_append, List.replicate, ↓o_pq, ↓o_p10, ↓o_p20, ↓o_p30, ↓o_p38, ↓o_p39, ↓o_p40, ↓o_p59, ↓o_p60, ↓o_p64, sl, List.length_cons, List.length_nil, decide_true, decide_false, Bool.false_eq_true, Bool.not_true, Bool.not_false, decide_eq_true_eq, Int.reduceEq, Int.reduceNe, Int.reduceLT, Int.reduceLE, Int.reduceNeg, Int.reduceAdd, Int.reduceSub, Int.reduceMul, Nat.reduceAdd, Nat.reduceLeDiff, Nat.reduceSub, Nat.reduceMul, Int.reduceToNat, Int.cast_ofNat_Int]
  unfold sg
  by_cases h : 0 < k
  · simp [h]
  · by_cases h2 : k < 0 <;> simp [h, h2]
theorem sign_k {n : Nat} (hn : 1 ≤ n) {k : Int}  {β : Type} {q : U → VR β} : (callV T F n 1 [.int k]).bind q = q (.int (sg k)) := bi_of (sign_ok hn)

theorem turn_ok {n : Nat} (hn : 2 ≤ n) {ax ay bx by_ cx cy : Int} [Sz 1000 ax] [Sz 1000 ay] [Sz 1000 bx] [Sz 1000 by_] [Sz 1000 cx] [Sz 1000 cy]  : callV T F n 2 [.tup [.int ax, .int ay], .tup [.int bx, .int by_], .tup [.int cx, .int cy]] = .ok (.int (sg (twV ax ay bx by_ cx cy))) := by
  rw [call_run false (by omega) (show T 2 = some f2 from rfl) rfl rfl]
  simp (maxSteps := 10000000) (disch := omega) only [f2, ↓r_var, ↓r_cI, ↓r_cB, ↓r_cN, ↓r_cS, ↓r_bin, ↓r_neg, ↓r_not, ↓r_cmp, ↓z_chn, ↓ch_b, ↓z_and, ↓an_b, ↓z_or, ↓or_b, ↓z_ite, ↓it_b, ↓r_tup, ↓r_lst, ↓r_idx, ↓r_slc, ↓r_call, ↓r_blt, ↓r_isi, ↓y_comp, ↓o_add, ↓o_sub, ↓o_neg, ↓o_mul, ↓o_modP, ↓o_fdivP, ↓o_lt, ↓o_le, ↓o_gt, ↓o_ge, ↓o_eq, ↓o_ne, ↓o_eqB, ↓o_neB, ↓o_isB, ↓o_isNotB, ↓o_isN, ↓o_isNotN, ↓o_ix0, ↓o_ix1, ↓o_ix2, ↓o_lx0, ↓o_lx1, ↓o_lx2, ↓o_lx3, ↓o_lenT, ↓o_lenL, ↓o_lenF, ↓o_listL, ↓o_listT, ↓o_listF, ↓o_tupL, ↓o_abs, ↓o_intI, ↓o_intB, ↓o_isiII, ↓o_isiBB, ↓o_isiTT, ↓o_isiLL, ↓o_ltP, ↓o_leP, ↓o_mnP2, ↓o_mxP2, ↓o_eqS, ↓o_k8, ↓o_k7, ↓o_eqP, ↓o_neP, ↓o_in2, ↓o_in3, ↓bu_f, ↓bu_t, ↓o_f1, ↓o_f2, ↓o_f3, ↓o_t1, ↓o_t2, ↓o_srtI, ↓o_srtP, ↓o_srtS, ↓o_srtT, ↓o_mn2, ↓o_mx2, ↓o_inP, ↓o_niP, ↓o_e00, ↓o_n00, ↓o_eq0, ↓o_ne0, ↓o_eqL, ↓o_neL, ↓r_nil, ↓r_cons, ↓r_tru, ↓i_val_, ↓i_T, ↓i_L, ↓i_F, ↓i_rng1_, ↓i_rng2_, ↓u_2, ↓u_3, ↓u_4, ↓u_l2, ↓u_l3, ↓u_l4, ↓u_n2, ↓u_n3, ↓u_n4, ↓u_nl2, ↓u_nl3, ↓u_nl4, ↓b_nm, ↓b_tp, ↓bw_nm, ↓bw_tp, ↓wip_0, ↓wip_s, ↓clk_0, ↓clk_s, ↓c_cons, ↓c_end, ↓z_set, ↓ps_n, ↓ps_l, ↓ps_s, ↓z_unp, ↓us_n, ↓z_app, ↓as_n, ↓as_l, ↓zz_for, ↓ws_T, ↓ws_F, ↓ws_S, ↓ws_Z, ↓z_for1, ↓z_for2, ↓y_ret, ↓re_n, ↓re_f, ↓re_v, ↓re_c, ↓ob_0, ↓ob_s, ↓x_expr, ↓x_ret0, ↓z_if, ↓if_b, ↓x_brk, ↓x_cnt, ↓x_pass, ↓x_nil, ↓z_cons, ↓x_aug, ↓aug_0, ↓aug_s, ↓toI_k, ↓zs_nx, ↓zs_rt, ↓zs_bk, ↓zs_ct, ↓zf_nil, ↓zf_cons, ↓zk_nx, ↓zk_ct, ↓zk_bk, ↓zk_rt, ↓z_whl, ↓zw_nx, ↓zw_ct, ↓zw_bk, ↓zw_rt, ↓getK_0, ↓getK_s, ↓setK_0, ↓setK_s, ↓setsK_0, ↓setsK_s, ↓ownK_0, ↓ownK_s, ↓llow_0, ↓llow_n, ↓llow_s, ↓un_var, ↓un_con, ↓un_bin, ↓un_cmp, ↓un_idx, ↓un_slc, ↓un_ite, ↓un_call, ↓un_blt, ↓un_tup, ↓un_lst, ↓un_nil, ↓un_cons, ↓rt_n, ↓rt_f, ↓rt_t, ↓rt_nx, ↓ok_bi, ↓reduceIte, List.map_cons, List.map_nil, List.cons_append, List.nil_append, List.replicate, ↓o_pq, ↓o_p10, ↓o_p20, ↓o_p30, ↓o_p38, ↓o_p39, ↓o_p40, ↓o_p59, ↓o_p60, ↓o_p64, sl, List.length_cons, List.length_nil, decide_true, decide_false, Bool.false_eq_true, Bool.not_true, Bool.not_false, decide_eq_true_eq, Int.reduceEq, Int.reduceNe, Int.reduceLT, Int.reduceLE, Int.reduceNeg, Int.reduceAdd, Int.reduceSub, Int.reduceMul, Nat.reduceAdd, Nat.reduceLeDiff, Nat.reduceSub, Nat.reduceMul, Int.reduceToNat, Int.cast_ofNat_Int, ↓twice_k, ↓sign_k]
theorem turn_k {n : Nat} (hn : 2 ≤ n) {ax ay bx by_ cx cy : Int} [Sz 1000 ax] [Sz 1000 ay] [Sz 1000 bx] [Sz 1000 by_] [Sz 1000 cx] [Sz 1000 cy]  {β : Type} {q : U → VR β} : (callV T F n 2 [.tup [.int ax, .int ay], .tup [.int bx, .int by_], .tup [.int cx, .int cy]]).bind q = q (.int (sg (twV ax ay bx by_ cx cy))) := bi_of (turn_ok hn)

theorem between_ok {n : Nat} (hn : 2 ≤ n) {ax ay bx by_ cx cy : Int} [Sz 1000 ax] [Sz 1000 ay] [Sz 1000 bx] [Sz 1000 by_] [Sz 1000 cx] [Sz 1000 cy]  : callV T F n 3 [.tup [.int ax, .int ay], .tup [.int bx, .int by_], .tup [.int cx, .int cy]] = .ok (.bl (decide (btw (ax, ay) (bx, by_) (cx, cy)))) := by
  rw [call_run false (by omega) (show T 3 = some f3 from rfl) rfl rfl]
  unfold btw
  by_cases h : twV ax ay bx by_ cx cy = 0
  · by_cases h1 : lxP ax ay cx cy
    · by_cases h2 : lxP cx cy bx by_
      · simp (maxSteps := 10000000) (disch := omega) only [f3, ↓r_var, ↓r_cI, ↓r_cB, ↓r_cN, ↓r_cS, ↓r_bin, ↓r_neg, ↓r_not, ↓r_cmp, ↓z_chn, ↓ch_b, ↓z_and, ↓an_b, ↓z_or, ↓or_b, ↓z_ite, ↓it_b, ↓r_tup, ↓r_lst, ↓r_idx, ↓r_slc, ↓r_call, ↓r_blt, ↓r_isi, ↓y_comp, ↓o_add, ↓o_sub, ↓o_neg, ↓o_mul, ↓o_modP, ↓o_fdivP, ↓o_lt, ↓o_le, ↓o_gt, ↓o_ge, ↓o_eq, ↓o_ne, ↓o_eqB, ↓o_neB, ↓o_isB, ↓o_isNotB, ↓o_isN, ↓o_isNotN, ↓o_ix0, ↓o_ix1, ↓o_ix2, ↓o_lx0, ↓o_lx1, ↓o_lx2, ↓o_lx3, ↓o_lenT, ↓o_lenL, ↓o_lenF, ↓o_listL, ↓o_listT, ↓o_listF, ↓o_tupL, ↓o_abs, ↓o_intI, ↓o_intB, ↓o_isiII, ↓o_isiBB, ↓o_isiTT, ↓o_isiLL, ↓o_ltP, ↓o_leP, ↓o_mnP2, ↓o_mxP2, ↓o_eqS, ↓o_k8, ↓o_k7, ↓o_eqP, ↓o_neP, ↓o_in2, ↓o_in3, ↓bu_f, ↓bu_t, ↓o_f1, ↓o_f2, ↓o_f3, ↓o_t1, ↓o_t2, ↓o_srtI, ↓o_srtP, ↓o_srtS, ↓o_srtT, ↓o_mn2, ↓o_mx2, ↓o_inP, ↓o_niP, ↓o_e00, ↓o_n00, ↓o_eq0, ↓o_ne0, ↓o_eqL, ↓o_neL, ↓r_nil, ↓r_cons, ↓r_tru, ↓i_val_, ↓i_T, ↓i_L, ↓i_F, ↓i_rng1_, ↓i_rng2_, ↓u_2, ↓u_3, ↓u_4, ↓u_l2, ↓u_l3, ↓u_l4, ↓u_n2, ↓u_n3, ↓u_n4, ↓u_nl2, ↓u_nl3, ↓u_nl4, ↓b_nm, ↓b_tp, ↓bw_nm, ↓bw_tp, ↓wip_0, ↓wip_s, ↓clk_0, ↓clk_s, ↓c_cons, ↓c_end, ↓z_set, ↓ps_n, ↓ps_l, ↓ps_s, ↓z_unp, ↓us_n, ↓z_app, ↓as_n, ↓as_l, ↓zz_for, ↓ws_T, ↓ws_F, ↓ws_S, ↓ws_Z, ↓z_for1, ↓z_for2, ↓y_ret, ↓re_n, ↓re_f, ↓re_v, ↓re_c, ↓ob_0, ↓ob_s, ↓x_expr, ↓x_ret0, ↓z_if, ↓if_b, ↓x_brk, ↓x_cnt, ↓x_pass, ↓x_nil, ↓z_cons, ↓x_aug, ↓aug_0, ↓aug_s, ↓toI_k, ↓zs_nx, ↓zs_rt, ↓zs_bk, ↓zs_ct, ↓zf_nil, ↓zf_cons, ↓zk_nx, ↓zk_ct, ↓zk_bk, ↓zk_rt, ↓z_whl, ↓zw_nx, ↓zw_ct, ↓zw_bk, ↓zw_rt, ↓getK_0, ↓getK_s, ↓setK_0, ↓setK_s, ↓setsK_0, ↓setsK_s, ↓ownK_0, ↓ownK_s, ↓llow_0, ↓llow_n, ↓llow_s, ↓un_var, ↓un_con, ↓un_bin, ↓un_cmp, ↓un_idx, ↓un_slc, ↓un_ite, ↓un_call, ↓un_blt, ↓un_tup, ↓un_lst, ↓un_nil, ↓un_cons, ↓rt_n, ↓rt_f, ↓rt_t, ↓rt_nx, ↓ok_bi, ↓reduceIte, List.map_cons, List.map_nil, List.cons_append, List.nil_append, List.replicate, ↓o_pq, ↓o_p10, ↓o_p20, ↓o_p30, ↓o_p38, ↓o_p39, ↓o_p40, ↓o_p59, ↓o_p60, ↓o_p64, sl, List.length_cons, List.length_nil, decide_true, decide_false, Bool.false_eq_true, Bool.not_true, Bool.not_false, decide_eq_true_eq, Int.reduceEq, Int.reduceNe, Int.reduceLT, Int.reduceLE, Int.reduceNeg, Int.reduceAdd, Int.reduceSub, Int.reduceMul, Nat.reduceAdd, Nat.reduceLeDiff, Nat.reduceSub, Nat.reduceMul, Int.reduceToNat, Int.cast_ofNat_Int, ↓twice_k, h, h1, h2, and_self, true_or, true_and]
      · have h3 : ¬ (lxP bx by_ cx cy ∧ lxP cx cy ax ay) := fun z => by unfold lxP at *; omega
        by_cases h4 : lxP bx by_ cx cy
        · by_cases h5 : lxP cx cy ax ay
          · exact absurd ⟨h4, h5⟩ h3
          · simp (maxSteps := 10000000) (disch := omega) only [f3, ↓r_var, ↓r_cI, ↓r_cB, ↓r_cN, ↓r_cS, ↓r_bin, ↓r_neg, ↓r_not, ↓r_cmp, ↓z_chn, ↓ch_b, ↓z_and, ↓an_b, ↓z_or, ↓or_b, ↓z_ite, ↓it_b, ↓r_tup, ↓r_lst, ↓r_idx, ↓r_slc, ↓r_call, ↓r_blt, ↓r_isi, ↓y_comp, ↓o_add, ↓o_sub, ↓o_neg, ↓o_mul, ↓o_modP, ↓o_fdivP, ↓o_lt, ↓o_le, ↓o_gt, ↓o_ge, ↓o_eq, ↓o_ne, ↓o_eqB, ↓o_neB, ↓o_isB, ↓o_isNotB, ↓o_isN, ↓o_isNotN, ↓o_ix0, ↓o_ix1, ↓o_ix2, ↓o_lx0, ↓o_lx1, ↓o_lx2, ↓o_lx3, ↓o_lenT, ↓o_lenL, ↓o_lenF, ↓o_listL, ↓o_listT, ↓o_listF, ↓o_tupL, ↓o_abs, ↓o_intI, ↓o_intB, ↓o_isiII, ↓o_isiBB, ↓o_isiTT, ↓o_isiLL, ↓o_ltP, ↓o_leP, ↓o_mnP2, ↓o_mxP2, ↓o_eqS, ↓o_k8, ↓o_k7, ↓o_eqP, ↓o_neP, ↓o_in2, ↓o_in3, ↓bu_f, ↓bu_t, ↓o_f1, ↓o_f2, ↓o_f3, ↓o_t1, ↓o_t2, ↓o_srtI, ↓o_srtP, ↓o_srtS, ↓o_srtT, ↓o_mn2, ↓o_mx2, ↓o_inP, ↓o_niP, ↓o_e00, ↓o_n00, ↓o_eq0, ↓o_ne0, ↓o_eqL, ↓o_neL, ↓r_nil, ↓r_cons, ↓r_tru, ↓i_val_, ↓i_T, ↓i_L, ↓i_F, ↓i_rng1_, ↓i_rng2_, ↓u_2, ↓u_3, ↓u_4, ↓u_l2, ↓u_l3, ↓u_l4, ↓u_n2, ↓u_n3, ↓u_n4, ↓u_nl2, ↓u_nl3, ↓u_nl4, ↓b_nm, ↓b_tp, ↓bw_nm, ↓bw_tp, ↓wip_0, ↓wip_s, ↓clk_0, ↓clk_s, ↓c_cons, ↓c_end, ↓z_set, ↓ps_n, ↓ps_l, ↓ps_s, ↓z_unp, ↓us_n, ↓z_app, ↓as_n, ↓as_l, ↓zz_for, ↓ws_T, ↓ws_F, ↓ws_S, ↓ws_Z, ↓z_for1, ↓z_for2, ↓y_ret, ↓re_n, ↓re_f, ↓re_v, ↓re_c, ↓ob_0, ↓ob_s, ↓x_expr, ↓x_ret0, ↓z_if, ↓if_b, ↓x_brk, ↓x_cnt, ↓x_pass, ↓x_nil, ↓z_cons, ↓x_aug, ↓aug_0, ↓aug_s, ↓toI_k, ↓zs_nx, ↓zs_rt, ↓zs_bk, ↓zs_ct, ↓zf_nil, ↓zf_cons, ↓zk_nx, ↓zk_ct, ↓zk_bk, ↓zk_rt, ↓z_whl, ↓zw_nx, ↓zw_ct, ↓zw_bk, ↓zw_rt, ↓getK_0, ↓getK_s, ↓setK_0, ↓setK_s, ↓setsK_0, ↓setsK_s, ↓ownK_0, ↓ownK_s, ↓llow_0, ↓llow_n, ↓llow_s, ↓un_var, ↓un_con, ↓un_bin, ↓un_cmp, ↓un_idx, ↓un_slc, ↓un_ite, ↓un_call, ↓un_blt, ↓un_tup, ↓un_lst, ↓un_nil, ↓un_cons, ↓rt_n, ↓rt_f, ↓rt_t, ↓rt_nx, ↓ok_bi, ↓reduceIte, List.map_cons, List.map_nil, List.cons_append, List.nil_append, List.replicate, ↓o_pq, ↓o_p10, ↓o_p20, ↓o_p30, ↓o_p38, ↓o_p39, ↓o_p40, ↓o_p59, ↓o_p60, ↓o_p64, sl, List.length_cons, List.length_nil, decide_true, decide_false, Bool.false_eq_true, Bool.not_true, Bool.not_false, decide_eq_true_eq, Int.reduceEq, Int.reduceNe, Int.reduceLT, Int.reduceLE, Int.reduceNeg, Int.reduceAdd, Int.reduceSub, Int.reduceMul, Nat.reduceAdd, Nat.reduceLeDiff, Nat.reduceSub, Nat.reduceMul, Int.reduceToNat, Int.cast_ofNat_Int, ↓twice_k, h, h1, h2, h4, h5, and_false, or_self, true_and]
        · simp (maxSteps := 10000000) (disch := omega) only [f3, ↓r_var, ↓r_cI, ↓r_cB, ↓r_cN, ↓r_cS, ↓r_bin, ↓r_neg, ↓r_not, ↓r_cmp, ↓z_chn, ↓ch_b, ↓z_and, ↓an_b, ↓z_or, ↓or_b, ↓z_ite, ↓it_b, ↓r_tup, ↓r_lst, ↓r_idx, ↓r_slc, ↓r_call, ↓r_blt, ↓r_isi, ↓y_comp, ↓o_add, ↓o_sub, ↓o_neg, ↓o_mul, ↓o_modP, ↓o_fdivP, ↓o_lt, ↓o_le, ↓o_gt, ↓o_ge, ↓o_eq, ↓o_ne, ↓o_eqB, ↓o_neB, ↓o_isB, ↓o_isNotB, ↓o_isN, ↓o_isNotN, ↓o_ix0, ↓o_ix1, ↓o_ix2, ↓o_lx0, ↓o_lx1, ↓o_lx2, ↓o_lx3, ↓o_lenT, ↓o_lenL, ↓o_lenF, ↓o_listL, ↓o_listT, ↓o_listF, ↓o_tupL, ↓o_abs, ↓o_intI, ↓o_intB, ↓o_isiII, ↓o_isiBB, ↓o_isiTT, ↓o_isiLL, ↓o_ltP, ↓o_leP, ↓o_mnP2, ↓o_mxP2, ↓o_eqS, ↓o_k8, ↓o_k7, ↓o_eqP, ↓o_neP, ↓o_in2, ↓o_in3, ↓bu_f, ↓bu_t, ↓o_f1, ↓o_f2, ↓o_f3, ↓o_t1, ↓o_t2, ↓o_srtI, ↓o_srtP, ↓o_srtS, ↓o_srtT, ↓o_mn2, ↓o_mx2, ↓o_inP, ↓o_niP, ↓o_e00, ↓o_n00, ↓o_eq0, ↓o_ne0, ↓o_eqL, ↓o_neL, ↓r_nil, ↓r_cons, ↓r_tru, ↓i_val_, ↓i_T, ↓i_L, ↓i_F, ↓i_rng1_, ↓i_rng2_, ↓u_2, ↓u_3, ↓u_4, ↓u_l2, ↓u_l3, ↓u_l4, ↓u_n2, ↓u_n3, ↓u_n4, ↓u_nl2, ↓u_nl3, ↓u_nl4, ↓b_nm, ↓b_tp, ↓bw_nm, ↓bw_tp, ↓wip_0, ↓wip_s, ↓clk_0, ↓clk_s, ↓c_cons, ↓c_end, ↓z_set, ↓ps_n, ↓ps_l, ↓ps_s, ↓z_unp, ↓us_n, ↓z_app, ↓as_n, ↓as_l, ↓zz_for, ↓ws_T, ↓ws_F, ↓ws_S, ↓ws_Z, ↓z_for1, ↓z_for2, ↓y_ret, ↓re_n, ↓re_f, ↓re_v, ↓re_c, ↓ob_0, ↓ob_s, ↓x_expr, ↓x_ret0, ↓z_if, ↓if_b, ↓x_brk, ↓x_cnt, ↓x_pass, ↓x_nil, ↓z_cons, ↓x_aug, ↓aug_0, ↓aug_s, ↓toI_k, ↓zs_nx, ↓zs_rt, ↓zs_bk, ↓zs_ct, ↓zf_nil, ↓zf_cons, ↓zk_nx, ↓zk_ct, ↓zk_bk, ↓zk_rt, ↓z_whl, ↓zw_nx, ↓zw_ct, ↓zw_bk, ↓zw_rt, ↓getK_0, ↓getK_s, ↓setK_0, ↓setK_s, ↓setsK_0, ↓setsK_s, ↓ownK_0, ↓ownK_s, ↓llow_0, ↓llow_n, ↓llow_s, ↓un_var, ↓un_con, ↓un_bin, ↓un_cmp, ↓un_idx, ↓un_slc, ↓un_ite, ↓un_call, ↓un_blt, ↓un_tup, ↓un_lst, ↓un_nil, ↓un_cons, ↓rt_n, ↓rt_f, ↓rt_t, ↓rt_nx, ↓ok_bi, ↓reduceIte, List.map_cons, List.map_nil, List.cons_append, List.nil_append, List.replicate, ↓o_pq, ↓o_p10, ↓o_p20, ↓o_p30, ↓o_p38, ↓o_p39, ↓o_p40, ↓o_p59, ↓o_p60, ↓o_p64, sl, List.length_cons, List.length_nil, decide_true, decide_false, Bool.false_eq_true, Bool.not_true, Bool.not_false, decide_eq_true_eq, Int.reduceEq, Int.reduceNe, Int.reduceLT, Int.reduceLE, Int.reduceNeg, Int.reduceAdd, Int.reduceSub, Int.reduceMul, Nat.reduceAdd, Nat.reduceLeDiff, Nat.reduceSub, Nat.reduceMul, Int.reduceToNat, Int.cast_ofNat_Int, ↓twice_k, h, h1, h2, h4, and_false, false_and, or_self, true_and]
    · by_cases h4 : lxP bx by_ cx cy
      · by_cases h5 : lxP cx cy ax ay
        · simp (maxSteps := 10000000) (disch := omega) only [f3, ↓r_var, ↓r_cI, ↓r_cB, ↓r_cN, ↓r_cS, ↓r_bin, ↓r_neg, ↓r_not, ↓r_cmp, ↓z_chn, ↓ch_b, ↓z_and, ↓an_b, ↓z_or, ↓or_b, ↓z_ite, ↓it_b, ↓r_tup, ↓r_lst, ↓r_idx, ↓r_slc, ↓r_call, ↓r_blt, ↓r_isi, ↓y_comp, ↓o_add, ↓o_sub, ↓o_neg, ↓o_mul, ↓o_modP, ↓o_fdivP, ↓o_lt, ↓o_le, ↓o_gt, ↓o_ge, ↓o_eq, ↓o_ne, ↓o_eqB, ↓o_neB, ↓o_isB, ↓o_isNotB, ↓o_isN, ↓o_isNotN, ↓o_ix0, ↓o_ix1, ↓o_ix2, ↓o_lx0, ↓o_lx1, ↓o_lx2, ↓o_lx3, ↓o_lenT, ↓o_lenL, ↓o_lenF, ↓o_listL, ↓o_listT, ↓o_listF, ↓o_tupL, ↓o_abs, ↓o_intI, ↓o_intB, ↓o_isiII, ↓o_isiBB, ↓o_isiTT, ↓o_isiLL, ↓o_ltP, ↓o_leP, ↓o_mnP2, ↓o_mxP2, ↓o_eqS, ↓o_k8, ↓o_k7, ↓o_eqP, ↓o_neP, ↓o_in2, ↓o_in3, ↓bu_f, ↓bu_t, ↓o_f1, ↓o_f2, ↓o_f3, ↓o_t1, ↓o_t2, ↓o_srtI, ↓o_srtP, ↓o_srtS, ↓o_srtT, ↓o_mn2, ↓o_mx2, ↓o_inP, ↓o_niP, ↓o_e00, ↓o_n00, ↓o_eq0, ↓o_ne0, ↓o_eqL, ↓o_neL, ↓r_nil, ↓r_cons, ↓r_tru, ↓i_val_, ↓i_T, ↓i_L, ↓i_F, ↓i_rng1_, ↓i_rng2_, ↓u_2, ↓u_3, ↓u_4, ↓u_l2, ↓u_l3, ↓u_l4, ↓u_n2, ↓u_n3, ↓u_n4, ↓u_nl2, ↓u_nl3, ↓u_nl4, ↓b_nm, ↓b_tp, ↓bw_nm, ↓bw_tp, ↓wip_0, ↓wip_s, ↓clk_0, ↓clk_s, ↓c_cons, ↓c_end, ↓z_set, ↓ps_n, ↓ps_l, ↓ps_s, ↓z_unp, ↓us_n, ↓z_app, ↓as_n, ↓as_l, ↓zz_for, ↓ws_T, ↓ws_F, ↓ws_S, ↓ws_Z, ↓z_for1, ↓z_for2, ↓y_ret, ↓re_n, ↓re_f, ↓re_v, ↓re_c, ↓ob_0, ↓ob_s, ↓x_expr, ↓x_ret0, ↓z_if, ↓if_b, ↓x_brk, ↓x_cnt, ↓x_pass, ↓x_nil, ↓z_cons, ↓x_aug, ↓aug_0, ↓aug_s, ↓toI_k, ↓zs_nx, ↓zs_rt, ↓zs_bk, ↓zs_ct, ↓zf_nil, ↓zf_cons, ↓zk_nx, ↓zk_ct, ↓zk_bk, ↓zk_rt, ↓z_whl, ↓zw_nx, ↓zw_ct, ↓zw_bk, ↓zw_rt, ↓getK_0, ↓getK_s, ↓setK_0, ↓setK_s, ↓setsK_0, ↓setsK_s, ↓ownK_0, ↓ownK_s, ↓llow_0, ↓llow_n, ↓llow_s, ↓un_var, ↓un_con, ↓un_bin, ↓un_cmp, ↓un_idx, ↓un_slc, ↓un_ite, ↓un_call, ↓un_blt, ↓un_tup, ↓un_lst, ↓un_nil, ↓un_cons, ↓rt_n, ↓rt_f, ↓rt_t, ↓rt_nx, ↓ok_bi, ↓reduceIte, List.map_cons, List.map_nil, List.cons_append, List.nil_append, List.replicate, ↓o_pq, ↓o_p10, ↓o_p20, ↓o_p30, ↓o_p38, ↓o_p39, ↓o_p40, ↓o_p59, ↓o_p60, ↓o_p64, sl, List.length_cons, List.length_nil, decide_true, decide_false, Bool.false_eq_true, Bool.not_true, Bool.not_false, decide_eq_true_eq, Int.reduceEq, Int.reduceNe, Int.reduceLT, Int.reduceLE, Int.reduceNeg, Int.reduceAdd, Int.reduceSub, Int.reduceMul, Nat.reduceAdd, Nat.reduceLeDiff, Nat.reduceSub, Nat.reduceMul, Int.reduceToNat, Int.cast_ofNat_Int, ↓twice_k, h, h1, h4, h5, and_self, or_true, true_and, false_and]
        · simp (maxSteps := 10000000) (disch := omega) only [f3, ↓r_var, ↓r_cI, ↓r_cB, ↓r_cN, ↓r_cS, ↓r_bin, ↓r_neg, ↓r_not, ↓r_cmp, ↓z_chn, ↓ch_b, ↓z_and, ↓an_b, ↓z_or, ↓or_b, ↓z_ite, ↓it_b, ↓r_tup, ↓r_lst, ↓r_idx, ↓r_slc, ↓r_call, ↓r_blt, ↓r_isi, ↓y_comp, ↓o_add, ↓o_sub, ↓o_neg, ↓o_mul, ↓o_modP, ↓o_fdivP, ↓o_lt, ↓o_le, ↓o_gt, ↓o_ge, ↓o_eq, ↓o_ne, ↓o_eqB, ↓o_neB, ↓o_isB, ↓o_isNotB, ↓o_isN, ↓o_isNotN, ↓o_ix0, ↓o_ix1, ↓o_ix2, ↓o_lx0, ↓o_lx1, ↓o_lx2, ↓o_lx3, ↓o_lenT, ↓o_lenL, ↓o_lenF, ↓o_listL, ↓o_listT, ↓o_listF, ↓o_tupL, ↓o_abs, ↓o_intI, ↓o_intB, ↓o_isiII, ↓o_isiBB, ↓o_isiTT, ↓o_isiLL, ↓o_ltP, ↓o_leP, ↓o_mnP2, ↓o_mxP2, ↓o_eqS, ↓o_k8, ↓o_k7, ↓o_eqP, ↓o_neP, ↓o_in2, ↓o_in3, ↓bu_f, ↓bu_t, ↓o_f1, ↓o_f2, ↓o_f3, ↓o_t1, ↓o_t2, ↓o_srtI, ↓o_srtP, ↓o_srtS, ↓o_srtT, ↓o_mn2, ↓o_mx2, ↓o_inP, ↓o_niP, ↓o_e00, ↓o_n00, ↓o_eq0, ↓o_ne0, ↓o_eqL, ↓o_neL, ↓r_nil, ↓r_cons, ↓r_tru, ↓i_val_, ↓i_T, ↓i_L, ↓i_F, ↓i_rng1_, ↓i_rng2_, ↓u_2, ↓u_3, ↓u_4, ↓u_l2, ↓u_l3, ↓u_l4, ↓u_n2, ↓u_n3, ↓u_n4, ↓u_nl2, ↓u_nl3, ↓u_nl4, ↓b_nm, ↓b_tp, ↓bw_nm, ↓bw_tp, ↓wip_0, ↓wip_s, ↓clk_0, ↓clk_s, ↓c_cons, ↓c_end, ↓z_set, ↓ps_n, ↓ps_l, ↓ps_s, ↓z_unp, ↓us_n, ↓z_app, ↓as_n, ↓as_l, ↓zz_for, ↓ws_T, ↓ws_F, ↓ws_S, ↓ws_Z, ↓z_for1, ↓z_for2, ↓y_ret, ↓re_n, ↓re_f, ↓re_v, ↓re_c, ↓ob_0, ↓ob_s, ↓x_expr, ↓x_ret0, ↓z_if, ↓if_b, ↓x_brk, ↓x_cnt, ↓x_pass, ↓x_nil, ↓z_cons, ↓x_aug, ↓aug_0, ↓aug_s, ↓toI_k, ↓zs_nx, ↓zs_rt, ↓zs_bk, ↓zs_ct, ↓zf_nil, ↓zf_cons, ↓zk_nx, ↓zk_ct, ↓zk_bk, ↓zk_rt, ↓z_whl, ↓zw_nx, ↓zw_ct, ↓zw_bk, ↓zw_rt, ↓getK_0, ↓getK_s, ↓setK_0, ↓setK_s, ↓setsK_0, ↓setsK_s, ↓ownK_0, ↓ownK_s, ↓llow_0, ↓llow_n, ↓llow_s, ↓un_var, ↓un_con, ↓un_bin, ↓un_cmp, ↓un_idx, ↓un_slc, ↓un_ite, ↓un_call, ↓un_blt, ↓un_tup, ↓un_lst, ↓un_nil, ↓un_cons, ↓rt_n, ↓rt_f, ↓rt_t, ↓rt_nx, ↓ok_bi, ↓reduceIte, List.map_cons, List.map_nil, List.cons_append, List.nil_append, List.replicate, ↓o_pq, ↓o_p10, ↓o_p20, ↓o_p30, ↓o_p38, ↓o_p39, ↓o_p40, ↓o_p59, ↓o_p60, ↓o_p64, sl, List.length_cons, List.length_nil, decide_true, decide_false, Bool.false_eq_true, Bool.not_true, Bool.not_false, decide_eq_true_eq, Int.reduceEq, Int.reduceNe, Int.reduceLT, Int.reduceLE, Int.reduceNeg, Int.reduceAdd, Int.reduceSub, Int.reduceMul, Nat.reduceAdd, Nat.reduceLeDiff, Nat.reduceSub, Nat.reduceMul, Int.reduceToNat, Int.cast_ofNat_Int, ↓twice_k, h, h1, h4, h5, and_false, or_self, true_and, false_and]
      · simp (maxSteps := 10000000) (disch := omega) only [f3, ↓r_var, ↓r_cI, ↓r_cB, ↓r_cN, ↓r_cS, ↓r_bin, ↓r_neg, ↓r_not, ↓r_cmp, ↓z_chn, ↓ch_b, ↓z_and, ↓an_b, ↓z_or, ↓or_b, ↓z_ite, ↓it_b, ↓r_tup, ↓r_lst, ↓r_idx, ↓r_slc, ↓r_call, ↓r_blt, ↓r_isi, ↓y_comp, ↓o_add, ↓o_sub, ↓o_neg, ↓o_mul, ↓o_modP, ↓o_fdivP, ↓o_lt, ↓o_le, ↓o_gt, ↓o_ge, ↓o_eq, ↓o_ne, ↓o_eqB, ↓o_neB, ↓o_isB, ↓o_isNotB, ↓o_isN, ↓o_isNotN, ↓o_ix0, ↓o_ix1, ↓o_ix2, ↓o_lx0, ↓o_lx1, ↓o_lx2, ↓o_lx3, ↓o_lenT, ↓o_lenL, ↓o_lenF, ↓o_listL, ↓o_listT, ↓o_listF, ↓o_tupL, ↓o_abs, ↓o_intI, ↓o_intB, ↓o_isiII, ↓o_isiBB, ↓o_isiTT, ↓o_isiLL, ↓o_ltP, ↓o_leP, ↓o_mnP2, ↓o_mxP2, ↓o_eqS, ↓o_k8, ↓o_k7, ↓o_eqP, ↓o_neP, ↓o_in2, ↓o_in3, ↓bu_f, ↓bu_t, ↓o_f1, ↓o_f2, ↓o_f3, ↓o_t1, ↓o_t2, ↓o_srtI, ↓o_srtP, ↓o_srtS, ↓o_srtT, ↓o_mn2, ↓o_mx2, ↓o_inP, ↓o_niP, ↓o_e00, ↓o_n00, ↓o_eq0, ↓o_ne0, ↓o_eqL, ↓o_neL, ↓r_nil, ↓r_cons, ↓r_tru, ↓i_val_, ↓i_T, ↓i_L, ↓i_F, ↓i_rng1_, ↓i_rng2_, ↓u_2, ↓u_3, ↓u_4, ↓u_l2, ↓u_l3, ↓u_l4, ↓u_n2, ↓u_n3, ↓u_n4, ↓u_nl2, ↓u_nl3, ↓u_nl4, ↓b_nm, ↓b_tp, ↓bw_nm, ↓bw_tp, ↓wip_0, ↓wip_s, ↓clk_0, ↓clk_s, ↓c_cons, ↓c_end, ↓z_set, ↓ps_n, ↓ps_l, ↓ps_s, ↓z_unp, ↓us_n, ↓z_app, ↓as_n, ↓as_l, ↓zz_for, ↓ws_T, ↓ws_F, ↓ws_S, ↓ws_Z, ↓z_for1, ↓z_for2, ↓y_ret, ↓re_n, ↓re_f, ↓re_v, ↓re_c, ↓ob_0, ↓ob_s, ↓x_expr, ↓x_ret0, ↓z_if, ↓if_b, ↓x_brk, ↓x_cnt, ↓x_pass, ↓x_nil, ↓z_cons, ↓x_aug, ↓aug_0, ↓aug_s, ↓toI_k, ↓zs_nx, ↓zs_rt, ↓zs_bk, ↓zs_ct, ↓zf_nil, ↓zf_cons, ↓zk_nx, ↓zk_ct, ↓zk_bk, ↓zk_rt, ↓z_whl, ↓zw_nx, ↓zw_ct, ↓zw_bk, ↓zw_rt, ↓getK_0, ↓getK_s, ↓setK_0, ↓setK_s, ↓setsK_0, ↓setsK_s, ↓ownK_0, ↓ownK_s, ↓llow_0, ↓llow_n, ↓llow_s, ↓un_var, ↓un_con, ↓un_bin, ↓un_cmp, ↓un_idx, ↓un_slc, ↓un_ite, ↓un_call, ↓un_blt, ↓un_tup, ↓un_lst, ↓un_nil, ↓un_cons, ↓rt_n, ↓rt_f, ↓rt_t, ↓rt_nx, ↓ok_bi, ↓reduceIte, List.map_cons, List.map_nil, List.cons_append, List.nil_append, List.replicate, ↓o_pq, ↓o_p10, ↓o_p20, ↓o_p30, ↓o_p38, ↓o_p39, ↓o_p40, ↓o_p59, ↓o_p60, ↓o_p64, sl, List.length_cons, List.length_nil, decide_true, decide_false, Bool.false_eq_true, Bool.not_true, Bool.not_false, decide_eq_true_eq, Int.reduceEq, Int.reduceNe, Int.reduceLT, Int.reduceLE, Int.reduceNeg, Int.reduceAdd, Int.reduceSub, Int.reduceMul, Nat.reduceAdd, Nat.reduceLeDiff, Nat.reduceSub, Nat.reduceMul, Int.reduceToNat, Int.cast_ofNat_Int, ↓twice_k, h, h1, h4, and_false, false_and, or_self, true_and]
  · simp (maxSteps := 10000000) (disch := omega) only [f3, ↓r_var, ↓r_cI, ↓r_cB, ↓r_cN, ↓r_cS, ↓r_bin, ↓r_neg, ↓r_not, ↓r_cmp, ↓z_chn, ↓ch_b, ↓z_and, ↓an_b, ↓z_or, ↓or_b, ↓z_ite, ↓it_b, ↓r_tup, ↓r_lst, ↓r_idx, ↓r_slc, ↓r_call, ↓r_blt, ↓r_isi, ↓y_comp, ↓o_add, ↓o_sub, ↓o_neg, ↓o_mul, ↓o_modP, ↓o_fdivP, ↓o_lt, ↓o_le, ↓o_gt, ↓o_ge, ↓o_eq, ↓o_ne, ↓o_eqB, ↓o_neB, ↓o_isB, ↓o_isNotB, ↓o_isN, ↓o_isNotN, ↓o_ix0, ↓o_ix1, ↓o_ix2, ↓o_lx0, ↓o_lx1, ↓o_lx2, ↓o_lx3, ↓o_lenT, ↓o_lenL, ↓o_lenF, ↓o_listL, ↓o_listT, ↓o_listF, ↓o_tupL, ↓o_abs, ↓o_intI, ↓o_intB, ↓o_isiII, ↓o_isiBB, ↓o_isiTT, ↓o_isiLL, ↓o_ltP, ↓o_leP, ↓o_mnP2, ↓o_mxP2, ↓o_eqS, ↓o_k8, ↓o_k7, ↓o_eqP, ↓o_neP, ↓o_in2, ↓o_in3, ↓bu_f, ↓bu_t, ↓o_f1, ↓o_f2, ↓o_f3, ↓o_t1, ↓o_t2, ↓o_srtI, ↓o_srtP, ↓o_srtS, ↓o_srtT, ↓o_mn2, ↓o_mx2, ↓o_inP, ↓o_niP, ↓o_e00, ↓o_n00, ↓o_eq0, ↓o_ne0, ↓o_eqL, ↓o_neL, ↓r_nil, ↓r_cons, ↓r_tru, ↓i_val_, ↓i_T, ↓i_L, ↓i_F, ↓i_rng1_, ↓i_rng2_, ↓u_2, ↓u_3, ↓u_4, ↓u_l2, ↓u_l3, ↓u_l4, ↓u_n2, ↓u_n3, ↓u_n4, ↓u_nl2, ↓u_nl3, ↓u_nl4, ↓b_nm, ↓b_tp, ↓bw_nm, ↓bw_tp, ↓wip_0, ↓wip_s, ↓clk_0, ↓clk_s, ↓c_cons, ↓c_end, ↓z_set, ↓ps_n, ↓ps_l, ↓ps_s, ↓z_unp, ↓us_n, ↓z_app, ↓as_n, ↓as_l, ↓zz_for, ↓ws_T, ↓ws_F, ↓ws_S, ↓ws_Z, ↓z_for1, ↓z_for2, ↓y_ret, ↓re_n, ↓re_f, ↓re_v, ↓re_c, ↓ob_0, ↓ob_s, ↓x_expr, ↓x_ret0, ↓z_if, ↓if_b, ↓x_brk, ↓x_cnt, ↓x_pass, ↓x_nil, ↓z_cons, ↓x_aug, ↓aug_0, ↓aug_s, ↓toI_k, ↓zs_nx, ↓zs_rt, ↓zs_bk, ↓zs_ct, ↓zf_nil, ↓zf_cons, ↓zk_nx, ↓zk_ct, ↓zk_bk, ↓zk_rt, ↓z_whl, ↓zw_nx, ↓zw_ct, ↓zw_bk, ↓zw_rt, ↓getK_0, ↓getK_s, ↓setK_0, ↓setK_s, ↓setsK_0, ↓setsK_s, ↓ownK_0, ↓ownK_s, ↓llow_0, ↓llow_n, ↓llow_s, ↓un_var, ↓un_con, ↓un_bin, ↓un_cmp, ↓un_idx, ↓un_slc, ↓un_ite, ↓un_call, ↓un_blt, ↓un_tup, ↓un_lst, ↓un_nil, ↓un_cons, ↓rt_n, ↓rt_f, ↓rt_t, ↓rt_nx, ↓ok_bi, ↓reduceIte, List.map_cons, List.map_nil, List.cons_append, List.nil_append, List.replicate, ↓o_pq, ↓o_p10, ↓o_p20, ↓o_p30, ↓o_p38, ↓o_p39, ↓o_p40, ↓o_p59, ↓o_p60, ↓o_p64, sl, List.length_cons, List.length_nil, decide_true, decide_false, Bool.false_eq_true, Bool.not_true, Bool.not_false, decide_eq_true_eq, Int.reduceEq, Int.reduceNe, Int.reduceLT, Int.reduceLE, Int.reduceNeg, Int.reduceAdd, Int.reduceSub, Int.reduceMul, Nat.reduceAdd, Nat.reduceLeDiff, Nat.reduceSub, Nat.reduceMul, Int.reduceToNat, Int.cast_ofNat_Int, ↓twice_k, h, false_and]
theorem between_k {n : Nat} (hn : 2 ≤ n) {ax ay bx by_ cx cy : Int} [Sz 1000 ax] [Sz 1000 ay] [Sz 1000 bx] [Sz 1000 by_] [Sz 1000 cx] [Sz 1000 cy]  {β : Type} {q : U → VR β} : (callV T F n 3 [.tup [.int ax, .int ay], .tup [.int bx, .int by_], .tup [.int cx, .int cy]]).bind q = q (.bl (decide (btw (ax, ay) (bx, by_) (cx, cy)))) := bi_of (between_ok hn)

theorem meets_ok {n : Nat} (hn : 4 ≤ n) {ax ay bx by_ cx cy dx dy : Int} [Sz 1000 ax] [Sz 1000 ay] [Sz 1000 bx] [Sz 1000 by_] [Sz 1000 cx] [Sz 1000 cy] [Sz 1000 dx] [Sz 1000 dy]  : callV T F n 4 [.tup [.tup [.int ax, .int ay], .tup [.int bx, .int by_]], .tup [.tup [.int cx, .int cy], .tup [.int dx, .int dy]]] = .ok (.bl (decide (meetP (ax, ay) (bx, by_) (cx, cy) (dx, dy)))) := by
  rw [call_run false (by omega) (show T 4 = some f4 from rfl) rfl rfl]
  have hd : decide (meetP (ax, ay) (bx, by_) (cx, cy) (dx, dy)) = decide (((ax = cx ∧ ay = cy) ∧ (bx = dx ∧ by_ = dy)) ∨ (lxP cx cy bx by_ ∧ lxP ax ay dx dy ∧ (btw (ax, ay) (bx, by_) (cx, cy) ∨ btw (ax, ay) (bx, by_) (dx, dy) ∨ btw (cx, cy) (dx, dy) (ax, ay) ∨ btw (cx, cy) (dx, dy) (bx, by_) ∨ (sg (twV ax ay bx by_ cx cy) * sg (twV ax ay bx by_ dx dy) < 0 ∧ sg (twV cx cy dx dy ax ay) * sg (twV cx cy dx dy bx by_) < 0)))) :=
    decide_eq_decide.mpr (or_congr (by simp) Iff.rfl)
  rw [hd]
  clear hd
  by_cases h0 : (ax = cx ∧ ay = cy) ∧ (bx = dx ∧ by_ = dy)
  · simp (maxSteps := 10000000) (disch := omega) only [f4, ↓r_var, ↓r_cI, ↓r_cB, ↓r_cN, ↓r_cS, ↓r_bin, ↓r_neg, ↓r_not, ↓r_cmp, ↓z_chn, ↓ch_b, ↓z_and, ↓an_b, ↓z_or, ↓or_b, ↓z_ite, ↓it_b, ↓r_tup, ↓r_lst, ↓r_idx, ↓r_slc, ↓r_call, ↓r_blt, ↓r_isi, ↓y_comp, ↓o_add, ↓o_sub, ↓o_neg, ↓o_mul, ↓o_modP, ↓o_fdivP, ↓o_lt, ↓o_le, ↓o_gt, ↓o_ge, ↓o_eq, ↓o_ne, ↓o_eqB, ↓o_neB, ↓o_isB, ↓o_isNotB, ↓o_isN, ↓o_isNotN, ↓o_ix0, ↓o_ix1, ↓o_ix2, ↓o_lx0, ↓o_lx1, ↓o_lx2, ↓o_lx3, ↓o_lenT, ↓o_lenL, ↓o_lenF, ↓o_listL, ↓o_listT, ↓o_listF, ↓o_tupL, ↓o_abs, ↓o_intI, ↓o_intB, ↓o_isiII, ↓o_isiBB, ↓o_isiTT, ↓o_isiLL, ↓o_ltP, ↓o_leP, ↓o_mnP2, ↓o_mxP2, ↓o_eqS, ↓o_k8, ↓o_k7, ↓o_eqP, ↓o_neP, ↓o_in2, ↓o_in3, ↓bu_f, ↓bu_t, ↓o_f1, ↓o_f2, ↓o_f3, ↓o_t1, ↓o_t2, ↓o_srtI, ↓o_srtP, ↓o_srtS, ↓o_srtT, ↓o_mn2, ↓o_mx2, ↓o_inP, ↓o_niP, ↓o_e00, ↓o_n00, ↓o_eq0, ↓o_ne0, ↓o_eqL, ↓o_neL, ↓r_nil, ↓r_cons, ↓r_tru, ↓i_val_, ↓i_T, ↓i_L, ↓i_F, ↓i_rng1_, ↓i_rng2_, ↓u_2, ↓u_3, ↓u_4, ↓u_l2, ↓u_l3, ↓u_l4, ↓u_n2, ↓u_n3, ↓u_n4, ↓u_nl2, ↓u_nl3, ↓u_nl4, ↓b_nm, ↓b_tp, ↓bw_nm, ↓bw_tp, ↓wip_0, ↓wip_s, ↓clk_0, ↓clk_s, ↓c_cons, ↓c_end, ↓z_set, ↓ps_n, ↓ps_l, ↓ps_s, ↓z_unp, ↓us_n, ↓z_app, ↓as_n, ↓as_l, ↓zz_for, ↓ws_T, ↓ws_F, ↓ws_S, ↓ws_Z, ↓z_for1, ↓z_for2, ↓y_ret, ↓re_n, ↓re_f, ↓re_v, ↓re_c, ↓ob_0, ↓ob_s, ↓x_expr, ↓x_ret0, ↓z_if, ↓if_b, ↓x_brk, ↓x_cnt, ↓x_pass, ↓x_nil, ↓z_cons, ↓x_aug, ↓aug_0, ↓aug_s, ↓toI_k, ↓zs_nx, ↓zs_rt, ↓zs_bk, ↓zs_ct, ↓zf_nil, ↓zf_cons, ↓zk_nx, ↓zk_ct, ↓zk_bk, ↓zk_rt, ↓z_whl, ↓zw_nx, ↓zw_ct, ↓zw_bk, ↓zw_rt, ↓getK_0, ↓getK_s, ↓setK_0, ↓setK_s, ↓setsK_0, ↓setsK_s, ↓ownK_0, ↓ownK_s, ↓llow_0, ↓llow_n, ↓llow_s, ↓un_var, ↓un_con, ↓un_bin, ↓un_cmp, ↓un_idx, ↓un_slc, ↓un_ite, ↓un_call, ↓un_blt, ↓un_tup, ↓un_lst, ↓un_nil, ↓un_cons, ↓rt_n, ↓rt_f, ↓rt_t, ↓rt_nx, ↓ok_bi, ↓reduceIte, List.map_cons, List.map_nil, List.cons_append, List.nil_append, List.replicate, ↓o_pq, ↓o_p10, ↓o_p20, ↓o_p30, ↓o_p38, ↓o_p39, ↓o_p40, ↓o_p59, ↓o_p60, ↓o_p64, sl, List.length_cons, List.length_nil, decide_true, decide_false, Bool.false_eq_true, Bool.not_true, Bool.not_false, decide_eq_true_eq, Int.reduceEq, Int.reduceNe, Int.reduceLT, Int.reduceLE, Int.reduceNeg, Int.reduceAdd, Int.reduceSub, Int.reduceMul, Nat.reduceAdd, Nat.reduceLeDiff, Nat.reduceSub, Nat.reduceMul, Int.reduceToNat, Int.cast_ofNat_Int, h0, and_self, true_or]
  · have h0' := eq_false h0
    clear h0
    by_cases h1 : lxP cx cy bx by_
    · by_cases h2 : lxP ax ay dx dy
      · by_cases b1 : btw (ax, ay) (bx, by_) (cx, cy)
        · simp (maxSteps := 10000000) (disch := omega) only [f4, ↓r_var, ↓r_cI, ↓r_cB, ↓r_cN, ↓r_cS, ↓r_bin, ↓r_neg, ↓r_not, ↓r_cmp, ↓z_chn, ↓ch_b, ↓z_and, ↓an_b, ↓z_or, ↓or_b, ↓z_ite, ↓it_b, ↓r_tup, ↓r_lst, ↓r_idx, ↓r_slc, ↓r_call, ↓r_blt, ↓r_isi, ↓y_comp, ↓o_add, ↓o_sub, ↓o_neg, ↓o_mul, ↓o_modP, ↓o_fdivP, ↓o_lt, ↓o_le, ↓o_gt, ↓o_ge, ↓o_eq, ↓o_ne, ↓o_eqB, ↓o_neB, ↓o_isB, ↓o_isNotB, ↓o_isN, ↓o_isNotN, ↓o_ix0, ↓o_ix1, ↓o_ix2, ↓o_lx0, ↓o_lx1, ↓o_lx2, ↓o_lx3, ↓o_lenT, ↓o_lenL, ↓o_lenF, ↓o_listL, ↓o_listT, ↓o_listF, ↓o_tupL, ↓o_abs, ↓o_intI, ↓o_intB, ↓o_isiII, ↓o_isiBB, ↓o_isiTT, ↓o_isiLL, ↓o_ltP, ↓o_leP, ↓o_mnP2, ↓o_mxP2, ↓o_eqS, ↓o_k8, ↓o_k7, ↓o_eqP, ↓o_neP, ↓o_in2, ↓o_in3, ↓bu_f, ↓bu_t, ↓o_f1, ↓o_f2, ↓o_f3, ↓o_t1, ↓o_t2, ↓o_srtI, ↓o_srtP, ↓o_srtS, ↓o_srtT, ↓o_mn2, ↓o_mx2, ↓o_inP, ↓o_niP, ↓o_e00, ↓o_n00, ↓o_eq0, ↓o_ne0, ↓o_eqL, ↓o_neL, ↓r_nil, ↓r_cons, ↓r_tru, ↓i_val_, ↓i_T, ↓i_L, ↓i_F, ↓i_rng1_, ↓i_rng2_, ↓u_2, ↓u_3, ↓u_4, ↓u_l2, ↓u_l3, ↓u_l4, ↓u_n2, ↓u_n3, ↓u_n4, ↓u_nl2, ↓u_nl3, ↓u_nl4, ↓b_nm, ↓b_tp, ↓bw_nm, ↓bw_tp, ↓wip_0, ↓wip_s, ↓clk_0, ↓clk_s, ↓c_cons, ↓c_end, ↓z_set, ↓ps_n, ↓ps_l, ↓ps_s, ↓z_unp, ↓us_n, ↓z_app, ↓as_n, ↓as_l, ↓zz_for, ↓ws_T, ↓ws_F, ↓ws_S, ↓ws_Z, ↓z_for1, ↓z_for2, ↓y_ret, ↓re_n, ↓re_f, ↓re_v, ↓re_c, ↓ob_0, ↓ob_s, ↓x_expr, ↓x_ret0, ↓z_if, ↓if_b, ↓x_brk, ↓x_cnt, ↓x_pass, ↓x_nil, ↓z_cons, ↓x_aug, ↓aug_0, ↓aug_s, ↓toI_k, ↓zs_nx, ↓zs_rt, ↓zs_bk, ↓zs_ct, ↓zf_nil, ↓zf_cons, ↓zk_nx, ↓zk_ct, ↓zk_bk, ↓zk_rt, ↓z_whl, ↓zw_nx, ↓zw_ct, ↓zw_bk, ↓zw_rt, ↓getK_0, ↓getK_s, ↓setK_0, ↓setK_s, ↓setsK_0, ↓setsK_s, ↓ownK_0, ↓ownK_s, ↓llow_0, ↓llow_n, ↓llow_s, ↓un_var, ↓un_con, ↓un_bin, ↓un_cmp, ↓un_idx, ↓un_slc, ↓un_ite, ↓un_call, ↓un_blt, ↓un_tup, ↓un_lst, ↓un_nil, ↓un_cons, ↓rt_n, ↓rt_f, ↓rt_t, ↓rt_nx, ↓ok_bi, ↓reduceIte, List.map_cons, List.map_nil, List.cons_append, List.nil_append, List.replicate, ↓o_pq, ↓o_p10, ↓o_p20, ↓o_p30, ↓o_p38, ↓o_p39, ↓o_p40, ↓o_p59, ↓o_p60, ↓o_p64, sl, List.length_cons, List.length_nil, decide_true, decide_false, Bool.false_eq_true, Bool.not_true, Bool.not_false, decide_eq_true_eq, Int.reduceEq, Int.reduceNe, Int.reduceLT, Int.reduceLE, Int.reduceNeg, Int.reduceAdd, Int.reduceSub, Int.reduceMul, Nat.reduceAdd, Nat.reduceLeDiff, Nat.reduceSub, Nat.reduceMul, Int.reduceToNat, Int.cast_ofNat_Int, h0', h1, h2, ↓between_k, b1, not_true_eq_false, true_or, true_and, or_true]
        · by_cases b2 : btw (ax, ay) (bx, by_) (dx, dy)
          · simp (maxSteps := 10000000) (disch := omega) only [f4, ↓r_var, ↓r_cI, ↓r_cB, ↓r_cN, ↓r_cS, ↓r_bin, ↓r_neg, ↓r_not, ↓r_cmp, ↓z_chn, ↓ch_b, ↓z_and, ↓an_b, ↓z_or, ↓or_b, ↓z_ite, ↓it_b, ↓r_tup, ↓r_lst, ↓r_idx, ↓r_slc, ↓r_call, ↓r_blt, ↓r_isi, ↓y_comp, ↓o_add, ↓o_sub, ↓o_neg, ↓o_mul, ↓o_modP, ↓o_fdivP, ↓o_lt, ↓o_le, ↓o_gt, ↓o_ge, ↓o_eq, ↓o_ne, ↓o_eqB, ↓o_neB, ↓o_isB, ↓o_isNotB, ↓o_isN, ↓o_isNotN, ↓o_ix0, ↓o_ix1, ↓o_ix2, ↓o_lx0, ↓o_lx1, ↓o_lx2, ↓o_lx3, ↓o_lenT, ↓o_lenL, ↓o_lenF, ↓o_listL, ↓o_listT, ↓o_listF, ↓o_tupL, ↓o_abs, ↓o_intI, ↓o_intB, ↓o_isiII, ↓o_isiBB, ↓o_isiTT, ↓o_isiLL, ↓o_ltP, ↓o_leP, ↓o_mnP2, ↓o_mxP2, ↓o_eqS, ↓o_k8, ↓o_k7, ↓o_eqP, ↓o_neP, ↓o_in2, ↓o_in3, ↓bu_f, ↓bu_t, ↓o_f1, ↓o_f2, ↓o_f3, ↓o_t1, ↓o_t2, ↓o_srtI, ↓o_srtP, ↓o_srtS, ↓o_srtT, ↓o_mn2, ↓o_mx2, ↓o_inP, ↓o_niP, ↓o_e00, ↓o_n00, ↓o_eq0, ↓o_ne0, ↓o_eqL, ↓o_neL, ↓r_nil, ↓r_cons, ↓r_tru, ↓i_val_, ↓i_T, ↓i_L, ↓i_F, ↓i_rng1_, ↓i_rng2_, ↓u_2, ↓u_3, ↓u_4, ↓u_l2, ↓u_l3, ↓u_l4, ↓u_n2, ↓u_n3, ↓u_n4, ↓u_nl2, ↓u_nl3, ↓u_nl4, ↓b_nm, ↓b_tp, ↓bw_nm, ↓bw_tp, ↓wip_0, ↓wip_s, ↓clk_0, ↓clk_s, ↓c_cons, ↓c_end, ↓z_set, ↓ps_n, ↓ps_l, ↓ps_s, ↓z_unp, ↓us_n, ↓z_app, ↓as_n, ↓as_l, ↓zz_for, ↓ws_T, ↓ws_F, ↓ws_S, ↓ws_Z, ↓z_for1, ↓z_for2, ↓y_ret, ↓re_n, ↓re_f, ↓re_v, ↓re_c, ↓ob_0, ↓ob_s, ↓x_expr, ↓x_ret0, ↓z_if, ↓if_b, ↓x_brk, ↓x_cnt, ↓x_pass, ↓x_nil, ↓z_cons, ↓x_aug, ↓aug_0, ↓aug_s, ↓toI_k, ↓zs_nx, ↓zs_rt, ↓zs_bk, ↓zs_ct, ↓zf_nil, ↓zf_cons, ↓zk_nx, ↓zk_ct, ↓zk_bk, ↓zk_rt, ↓z_whl, ↓zw_nx, ↓zw_ct, ↓zw_bk, ↓zw_rt, ↓getK_0, ↓getK_s, ↓setK_0, ↓setK_s, ↓setsK_0, ↓setsK_s, ↓ownK_0, ↓ownK_s, ↓llow_0, ↓llow_n, ↓llow_s, ↓un_var, ↓un_con, ↓un_bin, ↓un_cmp, ↓un_idx, ↓un_slc, ↓un_ite, ↓un_call, ↓un_blt, ↓un_tup, ↓un_lst, ↓un_nil, ↓un_cons, ↓rt_n, ↓rt_f, ↓rt_t, ↓rt_nx, ↓ok_bi, ↓reduceIte, List.map_cons, List.map_nil, List.cons_append, List.nil_append, List.replicate, ↓o_pq, ↓o_p10, ↓o_p20, ↓o_p30, ↓o_p38, ↓o_p39, ↓o_p40, ↓o_p59, ↓o_p60, ↓o_p64, sl, List.length_cons, List.length_nil, decide_true, decide_false, Bool.false_eq_true, Bool.not_true, Bool.not_false, decide_eq_true_eq, Int.reduceEq, Int.reduceNe, Int.reduceLT, Int.reduceLE, Int.reduceNeg, Int.reduceAdd, Int.reduceSub, Int.reduceMul, Nat.reduceAdd, Nat.reduceLeDiff, Nat.reduceSub, Nat.reduceMul, Int.reduceToNat, Int.cast_ofNat_Int, h0', h1, h2, ↓between_k, b1, b2, not_true_eq_false, true_or, true_and, or_true]
          · by_cases b3 : btw (cx, cy) (dx, dy) (ax, ay)
            · simp (maxSteps := 10000000) (disch := omega) only [f4, ↓r_var, ↓r_cI, ↓r_cB, ↓r_cN, ↓r_cS, ↓r_bin, ↓r_neg, ↓r_not, ↓r_cmp, ↓z_chn, ↓ch_b, ↓z_and, ↓an_b, ↓z_or, ↓or_b, ↓z_ite, ↓it_b, ↓r_tup, ↓r_lst, ↓r_idx, ↓r_slc, ↓r_call, ↓r_blt, ↓r_isi, ↓y_comp, ↓o_add, ↓o_sub, ↓o_neg, ↓o_mul, ↓o_modP, ↓o_fdivP, ↓o_lt, ↓o_le, ↓o_gt, ↓o_ge, ↓o_eq, ↓o_ne, ↓o_eqB, ↓o_neB, ↓o_isB, ↓o_isNotB, ↓o_isN, ↓o_isNotN, ↓o_ix0, ↓o_ix1, ↓o_ix2, ↓o_lx0, ↓o_lx1, ↓o_lx2, ↓o_lx3, ↓o_lenT, ↓o_lenL, ↓o_lenF, ↓o_listL, ↓o_listT, ↓o_listF, ↓o_tupL, ↓o_abs, ↓o_intI, ↓o_intB, ↓o_isiII, ↓o_isiBB, ↓o_isiTT, ↓o_isiLL, ↓o_ltP, ↓o_leP, ↓o_mnP2, ↓o_mxP2, ↓o_eqS, ↓o_k8, ↓o_k7, ↓o_eqP, ↓o_neP, ↓o_in2, ↓o_in3, ↓bu_f, ↓bu_t, ↓o_f1, ↓o_f2, ↓o_f3, ↓o_t1, ↓o_t2, ↓o_srtI, ↓o_srtP, ↓o_srtS, ↓o_srtT, ↓o_mn2, ↓o_mx2, ↓o_inP, ↓o_niP, ↓o_e00, ↓o_n00, ↓o_eq0, ↓o_ne0, ↓o_eqL, ↓o_neL, ↓r_nil, ↓r_cons, ↓r_tru, ↓i_val_, ↓i_T, ↓i_L, ↓i_F, ↓i_rng1_, ↓i_rng2_, ↓u_2, ↓u_3, ↓u_4, ↓u_l2, ↓u_l3, ↓u_l4, ↓u_n2, ↓u_n3, ↓u_n4, ↓u_nl2, ↓u_nl3, ↓u_nl4, ↓b_nm, ↓b_tp, ↓bw_nm, ↓bw_tp, ↓wip_0, ↓wip_s, ↓clk_0, ↓clk_s, ↓c_cons, ↓c_end, ↓z_set, ↓ps_n, ↓ps_l, ↓ps_s, ↓z_unp, ↓us_n, ↓z_app, ↓as_n, ↓as_l, ↓zz_for, ↓ws_T, ↓ws_F, ↓ws_S, ↓ws_Z, ↓z_for1, ↓z_for2, ↓y_ret, ↓re_n, ↓re_f, ↓re_v, ↓re_c, ↓ob_0, ↓ob_s, ↓x_expr, ↓x_ret0, ↓z_if, ↓if_b, ↓x_brk, ↓x_cnt, ↓x_pass, ↓x_nil, ↓z_cons, ↓x_aug, ↓aug_0, ↓aug_s, ↓toI_k, ↓zs_nx, ↓zs_rt, ↓zs_bk, ↓zs_ct, ↓zf_nil, ↓zf_cons, ↓zk_nx, ↓zk_ct, ↓zk_bk, ↓zk_rt, ↓z_whl, ↓zw_nx, ↓zw_ct, ↓zw_bk, ↓zw_rt, ↓getK_0, ↓getK_s, ↓setK_0, ↓setK_s, ↓setsK_0, ↓setsK_s, ↓ownK_0, ↓ownK_s, ↓llow_0, ↓llow_n, ↓llow_s, ↓un_var, ↓un_con, ↓un_bin, ↓un_cmp, ↓un_idx, ↓un_slc, ↓un_ite, ↓un_call, ↓un_blt, ↓un_tup, ↓un_lst, ↓un_nil, ↓un_cons, ↓rt_n, ↓rt_f, ↓rt_t, ↓rt_nx, ↓ok_bi, ↓reduceIte, List.map_cons, List.map_nil, List.cons_append, List.nil_append, List.replicate, ↓o_pq, ↓o_p10, ↓o_p20, ↓o_p30, ↓o_p38, ↓o_p39, ↓o_p40, ↓o_p59, ↓o_p60, ↓o_p64, sl, List.length_cons, List.length_nil, decide_true, decide_false, Bool.false_eq_true, Bool.not_true, Bool.not_false, decide_eq_true_eq, Int.reduceEq, Int.reduceNe, Int.reduceLT, Int.reduceLE, Int.reduceNeg, Int.reduceAdd, Int.reduceSub, Int.reduceMul, Nat.reduceAdd, Nat.reduceLeDiff, Nat.reduceSub, Nat.reduceMul, Int.reduceToNat, Int.cast_ofNat_Int, h0', h1, h2, ↓between_k, b1, b2, b3, not_true_eq_false, true_or, true_and, or_true]
            · by_cases b4 : btw (cx, cy) (dx, dy) (bx, by_)
              · simp (maxSteps := 10000000) (disch := omega) only [f4, ↓r_var, ↓r_cI, ↓r_cB, ↓r_cN, ↓r_cS, ↓r_bin, ↓r_neg, ↓r_not, ↓r_cmp, ↓z_chn, ↓ch_b, ↓z_and, ↓an_b, ↓z_or, ↓or_b, ↓z_ite, ↓it_b, ↓r_tup, ↓r_lst, ↓r_idx, ↓r_slc, ↓r_call, ↓r_blt, ↓r_isi, ↓y_comp, ↓o_add, ↓o_sub, ↓o_neg, ↓o_mul, ↓o_modP, ↓o_fdivP, ↓o_lt, ↓o_le, ↓o_gt, ↓o_ge, ↓o_eq, ↓o_ne, ↓o_eqB, ↓o_neB, ↓o_isB, ↓o_isNotB, ↓o_isN, ↓o_isNotN, ↓o_ix0, ↓o_ix1, ↓o_ix2, ↓o_lx0, ↓o_lx1, ↓o_lx2, ↓o_lx3, ↓o_lenT, ↓o_lenL, ↓o_lenF, ↓o_listL, ↓o_listT, ↓o_listF, ↓o_tupL, ↓o_abs, ↓o_intI, ↓o_intB, ↓o_isiII, ↓o_isiBB, ↓o_isiTT, ↓o_isiLL, ↓o_ltP, ↓o_leP, ↓o_mnP2, ↓o_mxP2, ↓o_eqS, ↓o_k8, ↓o_k7, ↓o_eqP, ↓o_neP, ↓o_in2, ↓o_in3, ↓bu_f, ↓bu_t, ↓o_f1, ↓o_f2, ↓o_f3, ↓o_t1, ↓o_t2, ↓o_srtI, ↓o_srtP, ↓o_srtS, ↓o_srtT, ↓o_mn2, ↓o_mx2, ↓o_inP, ↓o_niP, ↓o_e00, ↓o_n00, ↓o_eq0, ↓o_ne0, ↓o_eqL, ↓o_neL, ↓r_nil, ↓r_cons, ↓r_tru, ↓i_val_, ↓i_T, ↓i_L, ↓i_F, ↓i_rng1_, ↓i_rng2_, ↓u_2, ↓u_3, ↓u_4, ↓u_l2, ↓u_l3, ↓u_l4, ↓u_n2, ↓u_n3, ↓u_n4, ↓u_nl2, ↓u_nl3, ↓u_nl4, ↓b_nm, ↓b_tp, ↓bw_nm, ↓bw_tp, ↓wip_0, ↓wip_s, ↓clk_0, ↓clk_s, ↓c_cons, ↓c_end, ↓z_set, ↓ps_n, ↓ps_l, ↓ps_s, ↓z_unp, ↓us_n, ↓z_app, ↓as_n, ↓as_l, ↓zz_for, ↓ws_T, ↓ws_F, ↓ws_S, ↓ws_Z, ↓z_for1, ↓z_for2, ↓y_ret, ↓re_n, ↓re_f, ↓re_v, ↓re_c, ↓ob_0, ↓ob_s, ↓x_expr, ↓x_ret0, ↓z_if, ↓if_b, ↓x_brk, ↓x_cnt, ↓x_pass, ↓x_nil, ↓z_cons, ↓x_aug, ↓aug_0, ↓aug_s, ↓toI_k, ↓zs_nx, ↓zs_rt, ↓zs_bk, ↓zs_ct, ↓zf_nil, ↓zf_cons, ↓zk_nx, ↓zk_ct, ↓zk_bk, ↓zk_rt, ↓z_whl, ↓zw_nx, ↓zw_ct, ↓zw_bk, ↓zw_rt, ↓getK_0, ↓getK_s, ↓setK_0, ↓setK_s, ↓setsK_0, ↓setsK_s, ↓ownK_0, ↓ownK_s, ↓llow_0, ↓llow_n, ↓llow_s, ↓un_var, ↓un_con, ↓un_bin, ↓un_cmp, ↓un_idx, ↓un_slc, ↓un_ite, ↓un_call, ↓un_blt, ↓un_tup, ↓un_lst, ↓un_nil, ↓un_cons, ↓rt_n, ↓rt_f, ↓rt_t, ↓rt_nx, ↓ok_bi, ↓reduceIte, List.map_cons, List.map_nil, List.cons_append, List.nil_append, List.replicate, ↓o_pq, ↓o_p10, ↓o_p20, ↓o_p30, ↓o_p38, ↓o_p39, ↓o_p40, ↓o_p59, ↓o_p60, ↓o_p64, sl, List.length_cons, List.length_nil, decide_true, decide_false, Bool.false_eq_true, Bool.not_true, Bool.not_false, decide_eq_true_eq, Int.reduceEq, Int.reduceNe, Int.reduceLT, Int.reduceLE, Int.reduceNeg, Int.reduceAdd, Int.reduceSub, Int.reduceMul, Nat.reduceAdd, Nat.reduceLeDiff, Nat.reduceSub, Nat.reduceMul, Int.reduceToNat, Int.cast_ofNat_Int, h0', h1, h2, ↓between_k, b1, b2, b3, b4, not_true_eq_false, true_or, true_and, or_true]
              · by_cases p1 : sg (twV ax ay bx by_ cx cy) * sg (twV ax ay bx by_ dx dy) < 0
                · by_cases p2 : sg (twV cx cy dx dy ax ay) * sg (twV cx cy dx dy bx by_) < 0
                  · simp (maxSteps := 10000000) (disch := omega) only [f4, ↓r_var, ↓r_cI, ↓r_cB, ↓r_cN, ↓r_cS, ↓r_bin, ↓r_neg, ↓r_not, ↓r_cmp, ↓z_chn, ↓ch_b, ↓z_and, ↓an_b, ↓z_or, ↓or_b, ↓z_ite, ↓it_b, ↓r_tup, ↓r_lst, ↓r_idx, ↓r_slc, ↓r_call, ↓r_blt, ↓r_isi, ↓y_comp, ↓o_add, ↓o_sub, ↓o_neg, ↓o_mul, ↓o_modP, ↓o_fdivP, ↓o_lt, ↓o_le, ↓o_gt, ↓o_ge, ↓o_eq, ↓o_ne, ↓o_eqB, ↓o_neB, ↓o_isB, ↓o_isNotB, ↓o_isN, ↓o_isNotN, ↓o_ix0, ↓o_ix1, ↓o_ix2, ↓o_lx0, ↓o_lx1, ↓o_lx2, ↓o_lx3, ↓o_lenT, ↓o_lenL, ↓o_lenF, ↓o_listL, ↓o_listT, ↓o_listF, ↓o_tupL, ↓o_abs, ↓o_intI, ↓o_intB, ↓o_isiII, ↓o_isiBB, ↓o_isiTT, ↓o_isiLL, ↓o_ltP, ↓o_leP, ↓o_mnP2, ↓o_mxP2, ↓o_eqS, ↓o_k8, ↓o_k7, ↓o_eqP, ↓o_neP, ↓o_in2, ↓o_in3, ↓bu_f, ↓bu_t, ↓o_f1, ↓o_f2, ↓o_f3, ↓o_t1, ↓o_t2, ↓o_srtI, ↓o_srtP, ↓o_srtS, ↓o_srtT, ↓o_mn2, ↓o_mx2, ↓o_inP, ↓o_niP, ↓o_e00, ↓o_n00, ↓o_eq0, ↓o_ne0, ↓o_eqL, ↓o_neL, ↓r_nil, ↓r_cons, ↓r_tru, ↓i_val_, ↓i_T, ↓i_L, ↓i_F, ↓i_rng1_, ↓i_rng2_, ↓u_2, ↓u_3, ↓u_4, ↓u_l2, ↓u_l3, ↓u_l4, ↓u_n2, ↓u_n3, ↓u_n4, ↓u_nl2, ↓u_nl3, ↓u_nl4, ↓b_nm, ↓b_tp, ↓bw_nm, ↓bw_tp, ↓wip_0, ↓wip_s, ↓clk_0, ↓clk_s, ↓c_cons, ↓c_end, ↓z_set, ↓ps_n, ↓ps_l, ↓ps_s, ↓z_unp, ↓us_n, ↓z_app, ↓as_n, ↓as_l, ↓zz_for, ↓ws_T, ↓ws_F, ↓ws_S, ↓ws_Z, ↓z_for1, ↓z_for2, ↓y_ret, ↓re_n, ↓re_f, ↓re_v, ↓re_c, ↓ob_0, ↓ob_s, ↓x_expr, ↓x_ret0, ↓z_if, ↓if_b, ↓x_brk, ↓x_cnt, ↓x_pass, ↓x_nil, ↓z_cons, ↓x_aug, ↓aug_0, ↓aug_s, ↓toI_k, ↓zs_nx, ↓zs_rt, ↓zs_bk, ↓zs_ct, ↓zf_nil, ↓zf_cons, ↓zk_nx, ↓zk_ct, ↓zk_bk, ↓zk_rt, ↓z_whl, ↓zw_nx, ↓zw_ct, ↓zw_bk, ↓zw_rt, ↓getK_0, ↓getK_s, ↓setK_0, ↓setK_s, ↓setsK_0, ↓setsK_s, ↓ownK_0, ↓ownK_s, ↓llow_0, ↓llow_n, ↓llow_s, ↓un_var, ↓un_con, ↓un_bin, ↓un_cmp, ↓un_idx, ↓un_slc, ↓un_ite, ↓un_call, ↓un_blt, ↓un_tup, ↓un_lst, ↓un_nil, ↓un_cons, ↓rt_n, ↓rt_f, ↓rt_t, ↓rt_nx, ↓ok_bi, ↓reduceIte, List.map_cons, List.map_nil, List.cons_append, List.nil_append, List.replicate, ↓o_pq, ↓o_p10, ↓o_p20, ↓o_p30, ↓o_p38, ↓o_p39, ↓o_p40, ↓o_p59, ↓o_p60, ↓o_p64, sl, List.length_cons, List.length_nil, decide_true, decide_false, Bool.false_eq_true, Bool.not_true, Bool.not_false, decide_eq_true_eq, Int.reduceEq, Int.reduceNe, Int.reduceLT, Int.reduceLE, Int.reduceNeg, Int.reduceAdd, Int.reduceSub, Int.reduceMul, Nat.reduceAdd, Nat.reduceLeDiff, Nat.reduceSub, Nat.reduceMul, Int.reduceToNat, Int.cast_ofNat_Int, h0', h1, h2, ↓between_k, ↓turn_k, b1, b2, b3, b4, p1, p2, not_true_eq_false, false_or, true_and, and_self]
                  · simp (maxSteps := 10000000) (disch := omega) only [f4, ↓r_var, ↓r_cI, ↓r_cB, ↓r_cN, ↓r_cS, ↓r_bin, ↓r_neg, ↓r_not, ↓r_cmp, ↓z_chn, ↓ch_b, ↓z_and, ↓an_b, ↓z_or, ↓or_b, ↓z_ite, ↓it_b, ↓r_tup, ↓r_lst, ↓r_idx, ↓r_slc, ↓r_call, ↓r_blt, ↓r_isi, ↓y_comp, ↓o_add, ↓o_sub, ↓o_neg, ↓o_mul, ↓o_modP, ↓o_fdivP, ↓o_lt, ↓o_le, ↓o_gt, ↓o_ge, ↓o_eq, ↓o_ne, ↓o_eqB, ↓o_neB, ↓o_isB, ↓o_isNotB, ↓o_isN, ↓o_isNotN, ↓o_ix0, ↓o_ix1, ↓o_ix2, ↓o_lx0, ↓o_lx1, ↓o_lx2, ↓o_lx3, ↓o_lenT, ↓o_lenL, ↓o_lenF, ↓o_listL, ↓o_listT, ↓o_listF, ↓o_tupL, ↓o_abs, ↓o_intI, ↓o_intB, ↓o_isiII, ↓o_isiBB, ↓o_isiTT, ↓o_isiLL, ↓o_ltP, ↓o_leP, ↓o_mnP2, ↓o_mxP2, ↓o_eqS, ↓o_k8, ↓o_k7, ↓o_eqP, ↓o_neP, ↓o_in2, ↓o_in3, ↓bu_f, ↓bu_t, ↓o_f1, ↓o_f2, ↓o_f3, ↓o_t1, ↓o_t2, ↓o_srtI, ↓o_srtP, ↓o_srtS, ↓o_srtT, ↓o_mn2, ↓o_mx2, ↓o_inP, ↓o_niP, ↓o_e00, ↓o_n00, ↓o_eq0, ↓o_ne0, ↓o_eqL, ↓o_neL, ↓r_nil, ↓r_cons, ↓r_tru, ↓i_val_, ↓i_T, ↓i_L, ↓i_F, ↓i_rng1_, ↓i_rng2_, ↓u_2, ↓u_3, ↓u_4, ↓u_l2, ↓u_l3, ↓u_l4, ↓u_n2, ↓u_n3, ↓u_n4, ↓u_nl2, ↓u_nl3, ↓u_nl4, ↓b_nm, ↓b_tp, ↓bw_nm, ↓bw_tp, ↓wip_0, ↓wip_s, ↓clk_0, ↓clk_s, ↓c_cons, ↓c_end, ↓z_set, ↓ps_n, ↓ps_l, ↓ps_s, ↓z_unp, ↓us_n, ↓z_app, ↓as_n, ↓as_l, ↓zz_for, ↓ws_T, ↓ws_F, ↓ws_S, ↓ws_Z, ↓z_for1, ↓z_for2, ↓y_ret, ↓re_n, ↓re_f, ↓re_v, ↓re_c, ↓ob_0, ↓ob_s, ↓x_expr, ↓x_ret0, ↓z_if, ↓if_b, ↓x_brk, ↓x_cnt, ↓x_pass, ↓x_nil, ↓z_cons, ↓x_aug, ↓aug_0, ↓aug_s, ↓toI_k, ↓zs_nx, ↓zs_rt, ↓zs_bk, ↓zs_ct, ↓zf_nil, ↓zf_cons, ↓zk_nx, ↓zk_ct, ↓zk_bk, ↓zk_rt, ↓z_whl, ↓zw_nx, ↓zw_ct, ↓zw_bk, ↓zw_rt, ↓getK_0, ↓getK_s, ↓setK_0, ↓setK_s, ↓setsK_0, ↓setsK_s, ↓ownK_0, ↓ownK_s, ↓llow_0, ↓llow_n, ↓llow_s, ↓un_var, ↓un_con, ↓un_bin, ↓un_cmp, ↓un_idx, ↓un_slc, ↓un_ite, ↓un_call, ↓un_blt, ↓un_tup, ↓un_lst, ↓un_nil, ↓un_cons, ↓rt_n, ↓rt_f, ↓rt_t, ↓rt_nx, ↓ok_bi, ↓reduceIte, List.map_cons, List.map_nil, List.cons_append, List.nil_append, List.replicate, ↓o_pq, ↓o_p10, ↓o_p20, ↓o_p30, ↓o_p38, ↓o_p39, ↓o_p40, ↓o_p59, ↓o_p60, ↓o_p64, sl, List.length_cons, List.length_nil, decide_true, decide_false, Bool.false_eq_true, Bool.not_true, Bool.not_false, decide_eq_true_eq, Int.reduceEq, Int.reduceNe, Int.reduceLT, Int.reduceLE, Int.reduceNeg, Int.reduceAdd, Int.reduceSub, Int.reduceMul, Nat.reduceAdd, Nat.reduceLeDiff, Nat.reduceSub, Nat.reduceMul, Int.reduceToNat, Int.cast_ofNat_Int, h0', h1, h2, ↓between_k, ↓turn_k, b1, b2, b3, b4, p1, p2, not_true_eq_false, false_or, true_and, and_false]
                · simp (maxSteps := 10000000) (disch := omega) only [f4, ↓r_var, ↓r_cI, ↓r_cB, ↓r_cN, ↓r_cS, ↓r_bin, ↓r_neg, ↓r_not, ↓r_cmp, ↓z_chn, ↓ch_b, ↓z_and, ↓an_b, ↓z_or, ↓or_b, ↓z_ite, ↓it_b, ↓r_tup, ↓r_lst, ↓r_idx, ↓r_slc, ↓r_call, ↓r_blt, ↓r_isi, ↓y_comp, ↓o_add, ↓o_sub, ↓o_neg, ↓o_mul, ↓o_modP, ↓o_fdivP, ↓o_lt, ↓o_le, ↓o_gt, ↓o_ge, ↓o_eq, ↓o_ne, ↓o_eqB, ↓o_neB, ↓o_isB, ↓o_isNotB, ↓o_isN, ↓o_isNotN, ↓o_ix0, ↓o_ix1, ↓o_ix2, ↓o_lx0, ↓o_lx1, ↓o_lx2, ↓o_lx3, ↓o_lenT, ↓o_lenL, ↓o_lenF, ↓o_listL, ↓o_listT, ↓o_listF, ↓o_tupL, ↓o_abs, ↓o_intI, ↓o_intB, ↓o_isiII, ↓o_isiBB, ↓o_isiTT, ↓o_isiLL, ↓o_ltP, ↓o_leP, ↓o_mnP2, ↓o_mxP2, ↓o_eqS, ↓o_k8, ↓o_k7, ↓o_eqP, ↓o_neP, ↓o_in2, ↓o_in3, ↓bu_f, ↓bu_t, ↓o_f1, ↓o_f2, ↓o_f3, ↓o_t1, ↓o_t2, ↓o_srtI, ↓o_srtP, ↓o_srtS, ↓o_srtT, ↓o_mn2, ↓o_mx2, ↓o_inP, ↓o_niP, ↓o_e00, ↓o_n00, ↓o_eq0, ↓o_ne0, ↓o_eqL, ↓o_neL, ↓r_nil, ↓r_cons, ↓r_tru, ↓i_val_, ↓i_T, ↓i_L, ↓i_F, ↓i_rng1_, ↓i_rng2_, ↓u_2, ↓u_3, ↓u_4, ↓u_l2, ↓u_l3, ↓u_l4, ↓u_n2, ↓u_n3, ↓u_n4, ↓u_nl2, ↓u_nl3, ↓u_nl4, ↓b_nm, ↓b_tp, ↓bw_nm, ↓bw_tp, ↓wip_0, ↓wip_s, ↓clk_0, ↓clk_s, ↓c_cons, ↓c_end, ↓z_set, ↓ps_n, ↓ps_l, ↓ps_s, ↓z_unp, ↓us_n, ↓z_app, ↓as_n, ↓as_l, ↓zz_for, ↓ws_T, ↓ws_F, ↓ws_S, ↓ws_Z, ↓z_for1, ↓z_for2, ↓y_ret, ↓re_n, ↓re_f, ↓re_v, ↓re_c, ↓ob_0, ↓ob_s, ↓x_expr, ↓x_ret0, ↓z_if, ↓if_b, ↓x_brk, ↓x_cnt, ↓x_pass, ↓x_nil, ↓z_cons, ↓x_aug, ↓aug_0, ↓aug_s, ↓toI_k, ↓zs_nx, ↓zs_rt, ↓zs_bk, ↓zs_ct, ↓zf_nil, ↓zf_cons, ↓zk_nx, ↓zk_ct, ↓zk_bk, ↓zk_rt, ↓z_whl, ↓zw_nx, ↓zw_ct, ↓zw_bk, ↓zw_rt, ↓getK_0, ↓getK_s, ↓setK_0, ↓setK_s, ↓setsK_0, ↓setsK_s, ↓ownK_0, ↓ownK_s, ↓llow_0, ↓llow_n, ↓llow_s, ↓un_var, ↓un_con, ↓un_bin, ↓un_cmp, ↓un_idx, ↓un_slc, ↓un_ite, ↓un_call, ↓un_blt, ↓un_tup, ↓un_lst, ↓un_nil, ↓un_cons, ↓rt_n, ↓rt_f, ↓rt_t, ↓rt_nx, ↓ok_bi, ↓reduceIte, List.map_cons, List.map_nil, List.cons_append, List.nil_append, List.replicate, ↓o_pq, ↓o_p10, ↓o_p20, ↓o_p30, ↓o_p38, ↓o_p39, ↓o_p40, ↓o_p59, ↓o_p60, ↓o_p64, sl, List.length_cons, List.length_nil, decide_true, decide_false, Bool.false_eq_true, Bool.not_true, Bool.not_false, decide_eq_true_eq, Int.reduceEq, Int.reduceNe, Int.reduceLT, Int.reduceLE, Int.reduceNeg, Int.reduceAdd, Int.reduceSub, Int.reduceMul, Nat.reduceAdd, Nat.reduceLeDiff, Nat.reduceSub, Nat.reduceMul, Int.reduceToNat, Int.cast_ofNat_Int, h0', h1, h2, ↓between_k, ↓turn_k, b1, b2, b3, b4, p1, not_true_eq_false, false_or, true_and, false_and]
      · simp (maxSteps := 10000000) (disch := omega) only [f4, ↓r_var, ↓r_cI, ↓r_cB, ↓r_cN, ↓r_cS, ↓r_bin, ↓r_neg, ↓r_not, ↓r_cmp, ↓z_chn, ↓ch_b, ↓z_and, ↓an_b, ↓z_or, ↓or_b, ↓z_ite, ↓it_b, ↓r_tup, ↓r_lst, ↓r_idx, ↓r_slc, ↓r_call, ↓r_blt, ↓r_isi, ↓y_comp, ↓o_add, ↓o_sub, ↓o_neg, ↓o_mul, ↓o_modP, ↓o_fdivP, ↓o_lt, ↓o_le, ↓o_gt, ↓o_ge, ↓o_eq, ↓o_ne, ↓o_eqB, ↓o_neB, ↓o_isB, ↓o_isNotB, ↓o_isN, ↓o_isNotN, ↓o_ix0, ↓o_ix1, ↓o_ix2, ↓o_lx0, ↓o_lx1, ↓o_lx2, ↓o_lx3, ↓o_lenT, ↓o_lenL, ↓o_lenF, ↓o_listL, ↓o_listT, ↓o_listF, ↓o_tupL, ↓o_abs, ↓o_intI, ↓o_intB, ↓o_isiII, ↓o_isiBB, ↓o_isiTT, ↓o_isiLL, ↓o_ltP, ↓o_leP, ↓o_mnP2, ↓o_mxP2, ↓o_eqS, ↓o_k8, ↓o_k7, ↓o_eqP, ↓o_neP, ↓o_in2, ↓o_in3, ↓bu_f, ↓bu_t, ↓o_f1, ↓o_f2, ↓o_f3, ↓o_t1, ↓o_t2, ↓o_srtI, ↓o_srtP, ↓o_srtS, ↓o_srtT, ↓o_mn2, ↓o_mx2, ↓o_inP, ↓o_niP, ↓o_e00, ↓o_n00, ↓o_eq0, ↓o_ne0, ↓o_eqL, ↓o_neL, ↓r_nil, ↓r_cons, ↓r_tru, ↓i_val_, ↓i_T, ↓i_L, ↓i_F, ↓i_rng1_, ↓i_rng2_, ↓u_2, ↓u_3, ↓u_4, ↓u_l2, ↓u_l3, ↓u_l4, ↓u_n2, ↓u_n3, ↓u_n4, ↓u_nl2, ↓u_nl3, ↓u_nl4, ↓b_nm, ↓b_tp, ↓bw_nm, ↓bw_tp, ↓wip_0, ↓wip_s, ↓clk_0, ↓clk_s, ↓c_cons, ↓c_end, ↓z_set, ↓ps_n, ↓ps_l, ↓ps_s, ↓z_unp, ↓us_n, ↓z_app, ↓as_n, ↓as_l, ↓zz_for, ↓ws_T, ↓ws_F, ↓ws_S, ↓ws_Z, ↓z_for1, ↓z_for2, ↓y_ret, ↓re_n, ↓re_f, ↓re_v, ↓re_c, ↓ob_0, ↓ob_s, ↓x_expr, ↓x_ret0, ↓z_if, ↓if_b, ↓x_brk, ↓x_cnt, ↓x_pass, ↓x_nil, ↓z_cons, ↓x_aug, ↓aug_0, ↓aug_s, ↓toI_k, ↓zs_nx, ↓zs_rt, ↓zs_bk, ↓zs_ct, ↓zf_nil, ↓zf_cons, ↓zk_nx, ↓zk_ct, ↓zk_bk, ↓zk_rt, ↓z_whl, ↓zw_nx, ↓zw_ct, ↓zw_bk, ↓zw_rt, ↓getK_0, ↓getK_s, ↓setK_0, ↓setK_s, ↓setsK_0, ↓setsK_s, ↓ownK_0, ↓ownK_s, ↓llow_0, ↓llow_n, ↓llow_s, ↓un_var, ↓un_con, ↓un_bin, ↓un_cmp, ↓un_idx, ↓un_slc, ↓un_ite, ↓un_call, ↓un_blt, ↓un_tup, ↓un_lst, ↓un_nil, ↓un_cons, ↓rt_n, ↓rt_f, ↓rt_t, ↓rt_nx, ↓ok_bi, ↓reduceIte, List.map_cons, List.map_nil, List.cons_append, List.nil_append, List.replicate, ↓o_pq, ↓o_p10, ↓o_p20, ↓o_p30, ↓o_p38, ↓o_p39, ↓o_p40, ↓o_p59, ↓o_p60, ↓o_p64, sl, List.length_cons, List.length_nil, decide_true, decide_false, Bool.false_eq_true, Bool.not_true, Bool.not_false, decide_eq_true_eq, Int.reduceEq, Int.reduceNe, Int.reduceLT, Int.reduceLE, Int.reduceNeg, Int.reduceAdd, Int.reduceSub, Int.reduceMul, Nat.reduceAdd, Nat.reduceLeDiff, Nat.reduceSub, Nat.reduceMul, Int.reduceToNat, Int.cast_ofNat_Int, h0', h1, h2, not_true_eq_false, not_false_eq_true, false_and, and_false, or_self]
    · simp (maxSteps := 10000000) (disch := omega) only [f4, ↓r_var, ↓r_cI, ↓r_cB, ↓r_cN, ↓r_cS, ↓r_bin, ↓r_neg, ↓r_not, ↓r_cmp, ↓z_chn, ↓ch_b, ↓z_and, ↓an_b, ↓z_or, ↓or_b, ↓z_ite, ↓it_b, ↓r_tup, ↓r_lst, ↓r_idx, ↓r_slc, ↓r_call, ↓r_blt, ↓r_isi, ↓y_comp, ↓o_add, ↓o_sub, ↓o_neg, ↓o_mul, ↓o_modP, ↓o_fdivP, ↓o_lt, ↓o_le, ↓o_gt, ↓o_ge, ↓o_eq, ↓o_ne, ↓o_eqB, ↓o_neB, ↓o_isB, ↓o_isNotB, ↓o_isN, ↓o_isNotN, ↓o_ix0, ↓o_ix1, ↓o_ix2, ↓o_lx0, ↓o_lx1, ↓o_lx2, ↓o_lx3, ↓o_lenT, ↓o_lenL, ↓o_lenF, ↓o_listL, ↓o_listT, ↓o_listF, ↓o_tupL, ↓o_abs, ↓o_intI, ↓o_intB, ↓o_isiII, ↓o_isiBB, ↓o_isiTT, ↓o_isiLL, ↓o_ltP, ↓o_leP, ↓o_mnP2, ↓o_mxP2, ↓o_eqS, ↓o_k8, ↓o_k7, ↓o_eqP, ↓o_neP, ↓o_in2, ↓o_in3, ↓bu_f, ↓bu_t, ↓o_f1, ↓o_f2, ↓o_f3, ↓o_t1, ↓o_t2, ↓o_srtI, ↓o_srtP, ↓o_srtS, ↓o_srtT, ↓o_mn2, ↓o_mx2, ↓o_inP, ↓o_niP, ↓o_e00, ↓o_n00, ↓o_eq0, ↓o_ne0, ↓o_eqL, ↓o_neL, ↓r_nil, ↓r_cons, ↓r_tru, ↓i_val_, ↓i_T, ↓i_L, ↓i_F, ↓i_rng1_, ↓i_rng2_, ↓u_2, ↓u_3, ↓u_4, ↓u_l2, ↓u_l3, ↓u_l4, ↓u_n2, ↓u_n3, ↓u_n4, ↓u_nl2, ↓u_nl3, ↓u_nl4, ↓b_nm, ↓b_tp, ↓bw_nm, ↓bw_tp, ↓wip_0, ↓wip_s, ↓clk_0, ↓clk_s, ↓c_cons, ↓c_end, ↓z_set, ↓ps_n, ↓ps_l, ↓ps_s, ↓z_unp, ↓us_n, ↓z_app, ↓as_n, ↓as_l, ↓zz_for, ↓ws_T, ↓ws_F, ↓ws_S, ↓ws_Z, ↓z_for1, ↓z_for2, ↓y_ret, ↓re_n, ↓re_f, ↓re_v, ↓re_c, ↓ob_0, ↓ob_s, ↓x_expr, ↓x_ret0, ↓z_if, ↓if_b, ↓x_brk, ↓x_cnt, ↓x_pass, ↓x_nil, ↓z_cons, ↓x_aug, ↓aug_0, ↓aug_s, ↓toI_k, ↓zs_nx, ↓zs_rt, ↓zs_bk, ↓zs_ct, ↓zf_nil, ↓zf_cons, ↓zk_nx, ↓zk_ct, ↓zk_bk, ↓zk_rt, ↓z_whl, ↓zw_nx, ↓zw_ct, ↓zw_bk, ↓zw_rt, ↓getK_0, ↓getK_s, ↓setK_0, ↓setK_s, ↓setsK_0, ↓setsK_s, ↓ownK_0, ↓ownK_s, ↓llow_0, ↓llow_n, ↓llow_s, ↓un_var, ↓un_con, ↓un_bin, ↓un_cmp, ↓un_idx, ↓un_slc, ↓un_ite, ↓un_call, ↓un_blt, ↓un_tup, ↓un_lst, ↓un_nil, ↓un_cons, ↓rt_n, ↓rt_f, ↓rt_t, ↓rt_nx, ↓ok_bi, ↓reduceIte, List.map_cons, List.map_nil, List.cons_append, List.nil_append, List.replicate, ↓o_pq, ↓o_p10, ↓o_p20, ↓o_p30, ↓o_p38, ↓o_p39, ↓o_p40, ↓o_p59, ↓o_p60, ↓o_p64, sl, List.length_cons, List.length_nil, decide_true, decide_false, Bool.false_eq_true, Bool.not_true, Bool.not_false, decide_eq_true_eq, Int.reduceEq, Int.reduceNe, Int.reduceLT, Int.reduceLE, Int.reduceNeg, Int.reduceAdd, Int.reduceSub, Int.reduceMul, Nat.reduceAdd, Nat.reduceLeDiff, Nat.reduceSub, Nat.reduceMul, Int.reduceToNat, Int.cast_ofNat_Int, h0', h1, not_true_eq_false, not_false_eq_true, false_and, and_false, or_self]
theorem meets_k {n : Nat} (hn : 4 ≤ n) {ax ay bx by_ cx cy dx dy : Int} [Sz 1000 ax] [Sz 1000 ay] [Sz 1000 bx] [Sz 1000 by_] [Sz 1000 cx] [Sz 1000 cy] [Sz 1000 dx] [Sz 1000 dy]  {β : Type} {q : U → VR β} : (callV T F n 4 [.tup [.tup [.int ax, .int ay], .tup [.int bx, .int by_]], .tup [.tup [.int cx, .int cy], .tup [.int dx, .int dy]]]).bind q = q (.bl (decide (meetP (ax, ay) (bx, by_) (cx, cy) (dx, dy)))) := bi_of (meets_ok hn)

theorem at_ok {n : Nat} (hn : 1 ≤ n) {ns : List Int} {k : Int} (hk : 0 ≤ k) : callV T F n 5 [scr ns, .int k] = .ok (.int (nth ns k)) := by
  rw [call_run false (by omega) (show T 5 = some f5 from rfl) rfl rfl]
  have e1 : cutU (ns.map U.int) (some k) (some (k + 1)) ++ [U.int 0] = (if k < (ns.length : Int) then [.int (nth ns k), .int 0] else [.int 0]) := by
    obtain ⟨j, rfl⟩ : ∃ j : Nat, k = j := ⟨k.toNat, by omega⟩
    rw [show ((j : Int) + 1) = ((j + 1 : Nat) : Int) by omega, cut_mid]
    split
    · rename_i h
      have h' : j < ns.length := by omega
      have : ((ns.map U.int).take (j + 1)).drop j = [.int (nth ns (j : Int))] := by
        unfold nth
        rw [Int.toNat_natCast, List.getD_eq_getElem?_getD, List.getElem?_eq_getElem h', List.drop_take, show j + 1 - j = 1 by omega, List.drop_eq_getElem_cons (by simpa using h')]
        simp
      rw [this]; rfl
    · rename_i h
      rw [List.drop_eq_nil_of_le (by simp; omega)]; rfl
  have l0 : (cutU (ns.map U.int) (some k) (some (k + 1))).length ≤ 1 := by
    obtain ⟨j, rfl⟩ : ∃ j : Nat, k = j := ⟨k.toNat, by omega⟩
    rw [show ((j : Int) + 1) = ((j + 1 : Nat) : Int) by omega, cut_mid, List.length_drop, List.length_take]
    omega
  have oc : ∀ {β : Type} {q : U → VR β}, (binU .add (.lst (cutU (ns.map U.int) (some k) (some (k + 1)))) (.lst [.int 0])).bind q = q (.lst (if k < (ns.length : Int) then [.int (nth ns k), .int 0] else [.int 0])) := fun {β q} => by
    rw [o_cat (by rw [List.length_singleton]; exact Nat.le_of_lt (small1000 (by omega))), e1]
  by_cases h : k < (ns.length : Int)
  · rw [if_pos h] at oc
    simp (maxSteps := 10000000) (disch := omega) only [f5, ↓r_var, ↓r_cI, ↓r_cB, ↓r_cN, ↓r_cS, ↓r_bin, ↓r_neg, ↓r_not, ↓r_cmp, ↓z_chn, ↓ch_b, ↓z_and, ↓an_b, ↓z_or, ↓or_b, ↓z_ite, ↓it_b, ↓r_tup, ↓r_lst, ↓r_idx, ↓r_slc, ↓r_call, ↓r_blt, ↓r_isi, ↓y_comp, ↓o_add, ↓o_sub, ↓o_neg, ↓o_mul, ↓o_modP, ↓o_fdivP, ↓o_lt, ↓o_le, ↓o_gt, ↓o_ge, ↓o_eq, ↓o_ne, ↓o_eqB, ↓o_neB, ↓o_isB, ↓o_isNotB, ↓o_isN, ↓o_isNotN, ↓o_ix0, ↓o_ix1, ↓o_ix2, ↓o_lx0, ↓o_lx1, ↓o_lx2, ↓o_lx3, ↓o_lenT, ↓o_lenL, ↓o_lenF, ↓o_listL, ↓o_listT, ↓o_listF, ↓o_tupL, ↓o_abs, ↓o_intI, ↓o_intB, ↓o_isiII, ↓o_isiBB, ↓o_isiTT, ↓o_isiLL, ↓o_ltP, ↓o_leP, ↓o_mnP2, ↓o_mxP2, ↓o_eqS, ↓o_k8, ↓o_k7, ↓o_eqP, ↓o_neP, ↓o_in2, ↓o_in3, ↓bu_f, ↓bu_t, ↓o_f1, ↓o_f2, ↓o_f3, ↓o_t1, ↓o_t2, ↓o_srtI, ↓o_srtP, ↓o_srtS, ↓o_srtT, ↓o_mn2, ↓o_mx2, ↓o_inP, ↓o_niP, ↓o_e00, ↓o_n00, ↓o_eq0, ↓o_ne0, ↓o_eqL, ↓o_neL, ↓r_nil, ↓r_cons, ↓r_tru, ↓i_val_, ↓i_T, ↓i_L, ↓i_F, ↓i_rng1_, ↓i_rng2_, ↓u_2, ↓u_3, ↓u_4, ↓u_l2, ↓u_l3, ↓u_l4, ↓u_n2, ↓u_n3, ↓u_n4, ↓u_nl2, ↓u_nl3, ↓u_nl4, ↓b_nm, ↓b_tp, ↓bw_nm, ↓bw_tp, ↓wip_0, ↓wip_s, ↓clk_0, ↓clk_s, ↓c_cons, ↓c_end, ↓z_set, ↓ps_n, ↓ps_l, ↓ps_s, ↓z_unp, ↓us_n, ↓z_app, ↓as_n, ↓as_l, ↓zz_for, ↓ws_T, ↓ws_F, ↓ws_S, ↓ws_Z, ↓z_for1, ↓z_for2, ↓y_ret, ↓re_n, ↓re_f, ↓re_v, ↓re_c, ↓ob_0, ↓ob_s, ↓x_expr, ↓x_ret0, ↓z_if, ↓if_b, ↓x_brk, ↓x_cnt, ↓x_pass, ↓x_nil, ↓z_cons, ↓x_aug, ↓aug_0, ↓aug_s, ↓toI_k, ↓zs_nx, ↓zs_rt, ↓zs_bk, ↓zs_ct, ↓zf_nil, ↓zf_cons, ↓zk_nx, ↓zk_ct, ↓zk_bk, ↓zk_rt, ↓z_whl, ↓zw_nx, ↓zw_ct, ↓zw_bk, ↓zw_rt, ↓getK_0, ↓getK_s, ↓setK_0, ↓setK_s, ↓setsK_0, ↓setsK_s, ↓ownK_0, ↓ownK_s, ↓llow_0, ↓llow_n, ↓llow_s, ↓un_var, ↓un_con, ↓un_bin, ↓un_cmp, ↓un_idx, ↓un_slc, ↓un_ite, ↓un_call, ↓un_blt, ↓un_tup, ↓un_lst, ↓un_nil, ↓un_cons, ↓rt_n, ↓rt_f, ↓rt_t, ↓rt_nx, ↓ok_bi, ↓reduceIte, List.map_cons, List.map_nil, List.cons_append, List.nil_append, List.replicate, ↓o_pq, ↓o_p10, ↓o_p20, ↓o_p30, ↓o_p38, ↓o_p39, ↓o_p40, ↓o_p59, ↓o_p60, ↓o_p64, sl, List.length_cons, List.length_nil, decide_true, decide_false, Bool.false_eq_true, Bool.not_true, Bool.not_false, decide_eq_true_eq, Int.reduceEq, Int.reduceNe, Int.reduceLT, Int.reduceLE, Int.reduceNeg, Int.reduceAdd, Int.reduceSub, Int.reduceMul, Nat.reduceAdd, Nat.reduceLeDiff, Nat.reduceSub, Nat.reduceMul, Int.reduceToNat, Int.cast_ofNat_Int, ↓o_slcF, ↓oc]
  · have e : nth ns k = 0 := by
      unfold nth
      rw [List.getD_eq_getElem?_getD, List.getElem?_eq_none (by omega)]; rfl
    rw [if_neg h] at oc
    rw [e]
    simp (maxSteps := 10000000) (disch := omega) only [f5, ↓r_var, ↓r_cI, ↓r_cB, ↓r_cN, ↓r_cS, ↓r_bin, ↓r_neg, ↓r_not, ↓r_cmp, ↓z_chn, ↓ch_b, ↓z_and, ↓an_b, ↓z_or, ↓or_b, ↓z_ite, ↓it_b, ↓r_tup, ↓r_lst, ↓r_idx, ↓r_slc, ↓r_call, ↓r_blt, ↓r_isi, ↓y_comp, ↓o_add, ↓o_sub, ↓o_neg, ↓o_mul, ↓o_modP, ↓o_fdivP, ↓o_lt, ↓o_le, ↓o_gt, ↓o_ge, ↓o_eq, ↓o_ne, ↓o_eqB, ↓o_neB, ↓o_isB, ↓o_isNotB, ↓o_isN, ↓o_isNotN, ↓o_ix0, ↓o_ix1, ↓o_ix2, ↓o_lx0, ↓o_lx1, ↓o_lx2, ↓o_lx3, ↓o_lenT, ↓o_lenL, ↓o_lenF, ↓o_listL, ↓o_listT, ↓o_listF, ↓o_tupL, ↓o_abs, ↓o_intI, ↓o_intB, ↓o_isiII, ↓o_isiBB, ↓o_isiTT, ↓o_isiLL, ↓o_ltP, ↓o_leP, ↓o_mnP2, ↓o_mxP2, ↓o_eqS, ↓o_k8, ↓o_k7, ↓o_eqP, ↓o_neP, ↓o_in2, ↓o_in3, ↓bu_f, ↓bu_t, ↓o_f1, ↓o_f2, ↓o_f3, ↓o_t1, ↓o_t2, ↓o_srtI, ↓o_srtP, ↓o_srtS, ↓o_srtT, ↓o_mn2, ↓o_mx2, ↓o_inP, ↓o_niP, ↓o_e00, ↓o_n00, ↓o_eq0, ↓o_ne0, ↓o_eqL, ↓o_neL, ↓r_nil, ↓r_cons, ↓r_tru, ↓i_val_, ↓i_T, ↓i_L, ↓i_F, ↓i_rng1_, ↓i_rng2_, ↓u_2, ↓u_3, ↓u_4, ↓u_l2, ↓u_l3, ↓u_l4, ↓u_n2, ↓u_n3, ↓u_n4, ↓u_nl2, ↓u_nl3, ↓u_nl4, ↓b_nm, ↓b_tp, ↓bw_nm, ↓bw_tp, ↓wip_0, ↓wip_s, ↓clk_0, ↓clk_s, ↓c_cons, ↓c_end, ↓z_set, ↓ps_n, ↓ps_l, ↓ps_s, ↓z_unp, ↓us_n, ↓z_app, ↓as_n, ↓as_l, ↓zz_for, ↓ws_T, ↓ws_F, ↓ws_S, ↓ws_Z, ↓z_for1, ↓z_for2, ↓y_ret, ↓re_n, ↓re_f, ↓re_v, ↓re_c, ↓ob_0, ↓ob_s, ↓x_expr, ↓x_ret0, ↓z_if, ↓if_b, ↓x_brk, ↓x_cnt, ↓x_pass, ↓x_nil, ↓z_cons, ↓x_aug, ↓aug_0, ↓aug_s, ↓toI_k, ↓zs_nx, ↓zs_rt, ↓zs_bk, ↓zs_ct, ↓zf_nil, ↓zf_cons, ↓zk_nx, ↓zk_ct, ↓zk_bk, ↓zk_rt, ↓z_whl, ↓zw_nx, ↓zw_ct, ↓zw_bk, ↓zw_rt, ↓getK_0, ↓getK_s, ↓setK_0, ↓setK_s, ↓setsK_0, ↓setsK_s, ↓ownK_0, ↓ownK_s, ↓llow_0, ↓llow_n, ↓llow_s, ↓un_var, ↓un_con, ↓un_bin, ↓un_cmp, ↓un_idx, ↓un_slc, ↓un_ite, ↓un_call, ↓un_blt, ↓un_tup, ↓un_lst, ↓un_nil, ↓un_cons, ↓rt_n, ↓rt_f, ↓rt_t, ↓rt_nx, ↓ok_bi, ↓reduceIte, List.map_cons, List.map_nil, List.cons_append, List.nil_append, List.replicate, ↓o_pq, ↓o_p10, ↓o_p20, ↓o_p30, ↓o_p38, ↓o_p39, ↓o_p40, ↓o_p59, ↓o_p60, ↓o_p64, sl, List.length_cons, List.length_nil, decide_true, decide_false, Bool.false_eq_true, Bool.not_true, Bool.not_false, decide_eq_true_eq, Int.reduceEq, Int.reduceNe, Int.reduceLT, Int.reduceLE, Int.reduceNeg, Int.reduceAdd, Int.reduceSub, Int.reduceMul, Nat.reduceAdd, Nat.reduceLeDiff, Nat.reduceSub, Nat.reduceMul, Int.reduceToNat, Int.cast_ofNat_Int, ↓o_slcF, ↓oc]
theorem at_k {n : Nat} (hn : 1 ≤ n) {ns : List Int} {k : Int} (hk : 0 ≤ k) {β : Type} {q : U → VR β} : (callV T F n 5 [scr ns, .int k]).bind q = q (.int (nth ns k)) := bi_of (at_ok hn hk)

def fiveP : List U := [.tup [.int 5, .int 0], .tup [.int 4, .int 3], .tup [.int 3, .int 4], .tup [.int 0, .int 5], .tup [.int (-3), .int 4], .tup [.int (-4), .int 3], .tup [.int (-5), .int 0], .tup [.int (-4), .int (-3)], .tup [.int (-3), .int (-4)], .tup [.int 0, .int (-5)], .tup [.int 3, .int (-4)], .tup [.int 4, .int (-3)], .tup [.int 0, .int 0]]
theorem five_at (k : Int) : ∃ x y : Int, atI fiveP (k % 13) = some (.tup [.int x, .int y]) ∧ -5 ≤ x ∧ x ≤ 5 ∧ -5 ≤ y ∧ y ≤ 5 := by
  have h : k % 13 = 0 ∨ k % 13 = 1 ∨ k % 13 = 2 ∨ k % 13 = 3 ∨ k % 13 = 4 ∨ k % 13 = 5 ∨ k % 13 = 6 ∨ k % 13 = 7 ∨ k % 13 = 8 ∨ k % 13 = 9 ∨ k % 13 = 10 ∨ k % 13 = 11 ∨ k % 13 = 12 := by omega
  rcases h with h | h | h | h | h | h | h | h | h | h | h | h | h <;> rw [h]
  · exact ⟨5, 0, rfl, by decide⟩
  · exact ⟨4, 3, rfl, by decide⟩
  · exact ⟨3, 4, rfl, by decide⟩
  · exact ⟨0, 5, rfl, by decide⟩
  · exact ⟨-3, 4, rfl, by decide⟩
  · exact ⟨-4, 3, rfl, by decide⟩
  · exact ⟨-5, 0, rfl, by decide⟩
  · exact ⟨-4, -3, rfl, by decide⟩
  · exact ⟨-3, -4, rfl, by decide⟩
  · exact ⟨0, -5, rfl, by decide⟩
  · exact ⟨3, -4, rfl, by decide⟩
  · exact ⟨4, -3, rfl, by decide⟩
  · exact ⟨0, 0, rfl, by decide⟩
/-- the places by their kind, once the kind is one of six -/
theorem spot_tail {C : Nat → List U → VR U} {kind cell head : Int} [Sz 1048578 cell] [Sz 1048578 head] {o3 o4 o5 o6 : Option (Bool × U)} (hk : kind ≤ 5) :
    ∃ (x y : Int), Sz 200 x ∧ Sz 200 y ∧ (exVB F C (.cons (.ifs (.cmp .eq (.var 0) (.con (.int 1))) (.cons (.ret (.tup (.cons (.bin .add (.bin .mod (.var 1) (.con (.int 3))) (.bin .pow (.con (.int 10)) (.con (.int 30)))) (.cons (.bin .sub (.bin .mod (.bin .fdiv (.var 1) (.con (.int 3))) (.con (.int 3))) (.bin .pow (.con (.int 10)) (.con (.int 30)))) .nil)))) .nil) .nil) (.cons (.ifs (.cmp .eq (.var 0) (.con (.int 2))) (.cons (.set 3 (.lst (.cons (.tup (.cons (.con (.int 5)) (.cons (.con (.int 0)) .nil))) (.cons (.tup (.cons (.con (.int 4)) (.cons (.con (.int 3)) .nil))) (.cons (.tup (.cons (.con (.int 3)) (.cons (.con (.int 4)) .nil))) (.cons (.tup (.cons (.con (.int 0)) (.cons (.con (.int 5)) .nil))) (.cons (.tup (.cons (.neg (.con (.int 3))) (.cons (.con (.int 4)) .nil))) (.cons (.tup (.cons (.neg (.con (.int 4))) (.cons (.con (.int 3)) .nil))) (.cons (.tup (.cons (.neg (.con (.int 5))) (.cons (.con (.int 0)) .nil))) .nil))))))))) (.cons (.set 3 (.bin .add (.var 3) (.lst (.cons (.tup (.cons (.neg (.con (.int 4))) (.cons (.neg (.con (.int 3))) .nil))) (.cons (.tup (.cons (.neg (.con (.int 3))) (.cons (.neg (.con (.int 4))) .nil))) (.cons (.tup (.cons (.con (.int 0)) (.cons (.neg (.con (.int 5))) .nil))) (.cons (.tup (.cons (.con (.int 3)) (.cons (.neg (.con (.int 4))) .nil))) (.cons (.tup (.cons (.con (.int 4)) (.cons (.neg (.con (.int 3))) .nil))) (.cons (.tup (.cons (.con (.int 0)) (.cons (.con (.int 0)) .nil))) .nil))))))))) (.cons (.unp [5, 6] (.idx (.var 3) (.bin .mod (.var 1) (.con (.int 13))))) (.cons (.set 4 (.bin .mul (.bin .add (.con (.int 1)) (.bin .mod (.var 2) (.con (.int 1009)))) (.bin .add (.con (.int 1)) (.bin .mod (.bin .fdiv (.var 1) (.con (.int 13))) (.con (.int 2)))))) (.cons (.ret (.tup (.cons (.bin .add (.bin .mul (.var 5) (.var 4)) (.bin .mod (.bin .fdiv (.var 2) (.con (.int 1009))) (.bin .pow (.con (.int 10)) (.con (.int 30))))) (.cons (.bin .sub (.bin .mul (.var 6) (.var 4)) (.bin .mod (.bin .fdiv (.var 2) (.con (.int 2003))) (.bin .pow (.con (.int 10)) (.con (.int 30))))) .nil)))) .nil))))) .nil) (.cons (.ifs (.cmp .eq (.var 0) (.con (.int 3))) (.cons (.set 5 (.bin .sub (.bin .mod (.var 1) (.con (.int 11))) (.con (.int 5)))) (.cons (.ret (.tup (.cons (.var 5) (.cons (.bin .add (.bin .mul (.con (.int 2)) (.var 5)) (.bin .mul (.bin .fdiv (.bin .mod (.bin .fdiv (.var 1) (.con (.int 11))) (.con (.int 3))) (.con (.int 2))) (.bin .add (.con (.int 1)) (.bin .mod (.bin .fdiv (.var 1) (.con (.int 33))) (.con (.int 4)))))) .nil)))) .nil)) .nil) (.cons (.ifs (.cmp .eq (.var 0) (.con (.int 4))) (.cons (.ret (.tup (.cons (.bin .sub (.bin .mod (.bin .mul (.var 1) (.con (.int 48271))) (.con (.int 2003))) (.con (.int 1001))) (.cons (.bin .sub (.bin .mod (.bin .mul (.var 1) (.con (.int 69621))) (.con (.int 1999))) (.con (.int 999))) .nil)))) .nil) .nil) (.cons (.ifs (.cmp .eq (.var 0) (.con (.int 5))) (.cons (.set 5 (.bin .mod (.bin .mul (.var 1) (.bin .pow (.con (.int 48271)) (.con (.int 8)))) (.con (.int 170141183460469231731687303715884105727)))) (.cons (.ret (.tup (.cons (.bin .sub (.var 5) (.bin .pow (.con (.int 10)) (.con (.int 38)))) (.cons (.bin .sub (.bin .pow (.con (.int 10)) (.con (.int 30))) (.bin .mod (.bin .mul (.var 1) (.bin .pow (.con (.int 69621)) (.con (.int 7)))) (.con (.int 162259276829213363391578010288127)))) .nil)))) .nil)) .nil) (.cons (.ret (.tup (.cons (.bin .mod (.var 1) (.con (.int 4))) (.cons (.bin .mod (.bin .fdiv (.var 1) (.con (.int 4))) (.con (.int 4))) .nil)))) .nil)))))) [some (false, .int kind), some (false, .int cell), some (false, .int head), none, none, none, none]).bind (retK false) = .ok (.tup [.int x, .int y]) := by
  by_cases h1 : kind = 1
  · subst h1
    simp (maxSteps := 10000000) (disch := omega) only [↓r_var, ↓r_cI, ↓r_cB, ↓r_cN, ↓r_cS, ↓r_bin, ↓r_neg, ↓r_not, ↓r_cmp, ↓z_chn, ↓ch_b, ↓z_and, ↓an_b, ↓z_or, ↓or_b, ↓z_ite, ↓it_b, ↓r_tup, ↓r_lst, ↓r_idx, ↓r_slc, ↓r_call, ↓r_blt, ↓r_isi, ↓y_comp, ↓o_add, ↓o_sub, ↓o_neg, ↓o_mul, ↓o_modP, ↓o_fdivP, ↓o_lt, ↓o_le, ↓o_gt, ↓o_ge, ↓o_eq, ↓o_ne, ↓o_eqB, ↓o_neB, ↓o_isB, ↓o_isNotB, ↓o_isN, ↓o_isNotN, ↓o_ix0, ↓o_ix1, ↓o_ix2, ↓o_lx0, ↓o_lx1, ↓o_lx2, ↓o_lx3, ↓o_lenT, ↓o_lenL, ↓o_lenF, ↓o_listL, ↓o_listT, ↓o_listF, ↓o_tupL, ↓o_abs, ↓o_intI, ↓o_intB, ↓o_isiII, ↓o_isiBB, ↓o_isiTT, ↓o_isiLL, ↓o_ltP, ↓o_leP, ↓o_mnP2, ↓o_mxP2, ↓o_eqS, ↓o_k8, ↓o_k7, ↓o_eqP, ↓o_neP, ↓o_in2, ↓o_in3, ↓bu_f, ↓bu_t, ↓o_f1, ↓o_f2, ↓o_f3, ↓o_t1, ↓o_t2, ↓o_srtI, ↓o_srtP, ↓o_srtS, ↓o_srtT, ↓o_mn2, ↓o_mx2, ↓o_inP, ↓o_niP, ↓o_e00, ↓o_n00, ↓o_eq0, ↓o_ne0, ↓o_eqL, ↓o_neL, ↓r_nil, ↓r_cons, ↓r_tru, ↓i_val_, ↓i_T, ↓i_L, ↓i_F, ↓i_rng1_, ↓i_rng2_, ↓u_2, ↓u_3, ↓u_4, ↓u_l2, ↓u_l3, ↓u_l4, ↓u_n2, ↓u_n3, ↓u_n4, ↓u_nl2, ↓u_nl3, ↓u_nl4, ↓b_nm, ↓b_tp, ↓bw_nm, ↓bw_tp, ↓wip_0, ↓wip_s, ↓clk_0, ↓clk_s, ↓c_cons, ↓c_end, ↓z_set, ↓ps_n, ↓ps_l, ↓ps_s, ↓z_unp, ↓us_n, ↓z_app, ↓as_n, ↓as_l, ↓zz_for, ↓ws_T, ↓ws_F, ↓ws_S, ↓ws_Z, ↓z_for1, ↓z_for2, ↓y_ret, ↓re_n, ↓re_f, ↓re_v, ↓re_c, ↓ob_0, ↓ob_s, ↓x_expr, ↓x_ret0, ↓z_if, ↓if_b, ↓x_brk, ↓x_cnt, ↓x_pass, ↓x_nil, ↓z_cons, ↓x_aug, ↓aug_0, ↓aug_s, ↓toI_k, ↓zs_nx, ↓zs_rt, ↓zs_bk, ↓zs_ct, ↓zf_nil, ↓zf_cons, ↓zk_nx, ↓zk_ct, ↓zk_bk, ↓zk_rt, ↓z_whl, ↓zw_nx, ↓zw_ct, ↓zw_bk, ↓zw_rt, ↓getK_0, ↓getK_s, ↓setK_0, ↓setK_s, ↓setsK_0, ↓setsK_s, ↓ownK_0, ↓ownK_s, ↓llow_0, ↓llow_n, ↓llow_s, ↓un_var, ↓un_con, ↓un_bin, ↓un_cmp, ↓un_idx, ↓un_slc, ↓un_ite, ↓un_call, ↓un_blt, ↓un_tup, ↓un_lst, ↓un_nil, ↓un_cons, ↓rt_n, ↓rt_f, ↓rt_t, ↓rt_nx, ↓ok_bi, ↓reduceIte, List.map_cons, List.map_nil, List.cons_append, List.nil_append, List.replicate, ↓o_pq, ↓o_p10, ↓o_p20, ↓o_p30, ↓o_p38, ↓o_p39, ↓o_p40, ↓o_p59, ↓o_p60, ↓o_p64, sl, List.length_cons, List.length_nil, decide_true, decide_false, Bool.false_eq_true, Bool.not_true, Bool.not_false, decide_eq_true_eq, Int.reduceEq, Int.reduceNe, Int.reduceLT, Int.reduceLE, Int.reduceNeg, Int.reduceAdd, Int.reduceSub, Int.reduceMul, Nat.reduceAdd, Nat.reduceLeDiff, Nat.reduceSub, Nat.reduceMul, Int.reduceToNat, Int.cast_ofNat_Int]
    refine ⟨_, _, ?_, ?_, rfl⟩
    · exact (⟨by have := P30_eq; omega⟩ : Sz 101 (cell % 3 + P30)).up (by decide)
    · exact (⟨by have := P30_eq; omega⟩ : Sz 101 (cell / 3 % 3 - P30)).up (by decide)
  by_cases h2 : kind = 2
  · subst h2
    obtain ⟨x, y, hxy, b1, b2, b3, b4⟩ := five_at cell
    have hk : ∀ {β : Type} {q : U → VR β}, (ixU (.lst ([.tup [.int 5, .int 0], .tup [.int 4, .int 3], .tup [.int 3, .int 4], .tup [.int 0, .int 5], .tup [.int (-3), .int 4], .tup [.int (-4), .int 3], .tup [.int (-5), .int 0]] ++ [.tup [.int (-4), .int (-3)], .tup [.int (-3), .int (-4)], .tup [.int 0, .int (-5)], .tup [.int 3, .int (-4)], .tup [.int 4, .int (-3)], .tup [.int 0, .int 0]])) (.int (cell % 13))).bind q = q (.tup [.int x, .int y]) := o_ixL hxy
    have s1 : Sz 3 x := ⟨by omega⟩
    have s2 : Sz 3 y := ⟨by omega⟩
    have st : Sz 12 ((1 + head % 1009) * (1 + cell / 13 % 2)) := by
      have a1 : Sz 11 (1 + head % 1009) := ⟨by omega⟩
      have a2 : 1 + cell / 13 % 2 = 1 ∨ 1 + cell / 13 % 2 = 2 := by omega
      have a3 := a1.lt
      rcases a2 with e | e <;> rw [e]
      · exact ⟨by omega⟩
      · exact ⟨by omega⟩
    have lin : ∀ z t : Int, Sz 3 z → Sz 200 (z * ((1 + head % 1009) * (1 + cell / 13 % 2)) + t % P30) := fun z t sz => (inferInstance : Sz (3 + 12 + 100 + 1) _).up (by decide)
    have lin' : ∀ z t : Int, Sz 3 z → Sz 200 (z * ((1 + head % 1009) * (1 + cell / 13 % 2)) - t % P30) := fun z t sz => (inferInstance : Sz (3 + 12 + 100 + 1) _).up (by decide)
    have cat : ∀ {β : Type} {q : U → VR β}, (binU .add (.lst [.tup [.int 5, .int 0], .tup [.int 4, .int 3], .tup [.int 3, .int 4], .tup [.int 0, .int 5], .tup [.int (-3), .int 4], .tup [.int (-4), .int 3], .tup [.int (-5), .int 0]]) (.lst [.tup [.int (-4), .int (-3)], .tup [.int (-3), .int (-4)], .tup [.int 0, .int (-5)], .tup [.int 3, .int (-4)], .tup [.int 4, .int (-3)], .tup [.int 0, .int 0]])).bind q = q (.lst ([.tup [.int 5, .int 0], .tup [.int 4, .int 3], .tup [.int 3, .int 4], .tup [.int 0, .int 5], .tup [.int (-3), .int 4], .tup [.int (-4), .int 3], .tup [.int (-5), .int 0]] ++ [.tup [.int (-4), .int (-3)], .tup [.int (-3), .int (-4)], .tup [.int 0, .int (-5)], .tup [.int 3, .int (-4)], .tup [.int 4, .int (-3)], .tup [.int 0, .int 0]])) := fun {β q} => o_cat (Nat.le_of_lt (small1000 (by decide)))
    simp only [List.cons_append, List.nil_append] at hk cat
    simp (maxSteps := 10000000) (disch := omega) only [↓r_var, ↓r_cI, ↓r_cB, ↓r_cN, ↓r_cS, ↓r_bin, ↓r_neg, ↓r_not, ↓r_cmp, ↓z_chn, ↓ch_b, ↓z_and, ↓an_b, ↓z_or, ↓or_b, ↓z_ite, ↓it_b, ↓r_tup, ↓r_lst, ↓r_idx, ↓r_slc, ↓r_call, ↓r_blt, ↓r_isi, ↓y_comp, ↓o_add, ↓o_sub, ↓o_neg, ↓o_mul, ↓o_modP, ↓o_fdivP, ↓o_lt, ↓o_le, ↓o_gt, ↓o_ge, ↓o_eq, ↓o_ne, ↓o_eqB, ↓o_neB, ↓o_isB, ↓o_isNotB, ↓o_isN, ↓o_isNotN, ↓o_ix0, ↓o_ix1, ↓o_ix2, ↓o_lx0, ↓o_lx1, ↓o_lx2, ↓o_lx3, ↓o_lenT, ↓o_lenL, ↓o_lenF, ↓o_listL, ↓o_listT, ↓o_listF, ↓o_tupL, ↓o_abs, ↓o_intI, ↓o_intB, ↓o_isiII, ↓o_isiBB, ↓o_isiTT, ↓o_isiLL, ↓o_ltP, ↓o_leP, ↓o_mnP2, ↓o_mxP2, ↓o_eqS, ↓o_k8, ↓o_k7, ↓o_eqP, ↓o_neP, ↓o_in2, ↓o_in3, ↓bu_f, ↓bu_t, ↓o_f1, ↓o_f2, ↓o_f3, ↓o_t1, ↓o_t2, ↓o_srtI, ↓o_srtP, ↓o_srtS, ↓o_srtT, ↓o_mn2, ↓o_mx2, ↓o_inP, ↓o_niP, ↓o_e00, ↓o_n00, ↓o_eq0, ↓o_ne0, ↓o_eqL, ↓o_neL, ↓r_nil, ↓r_cons, ↓r_tru, ↓i_val_, ↓i_T, ↓i_L, ↓i_F, ↓i_rng1_, ↓i_rng2_, ↓u_2, ↓u_3, ↓u_4, ↓u_l2, ↓u_l3, ↓u_l4, ↓u_n2, ↓u_n3, ↓u_n4, ↓u_nl2, ↓u_nl3, ↓u_nl4, ↓b_nm, ↓b_tp, ↓bw_nm, ↓bw_tp, ↓wip_0, ↓wip_s, ↓clk_0, ↓clk_s, ↓c_cons, ↓c_end, ↓z_set, ↓ps_n, ↓ps_l, ↓ps_s, ↓z_unp, ↓us_n, ↓z_app, ↓as_n, ↓as_l, ↓zz_for, ↓ws_T, ↓ws_F, ↓ws_S, ↓ws_Z, ↓z_for1, ↓z_for2, ↓y_ret, ↓re_n, ↓re_f, ↓re_v, ↓re_c, ↓ob_0, ↓ob_s, ↓x_expr, ↓x_ret0, ↓z_if, ↓if_b, ↓x_brk, ↓x_cnt, ↓x_pass, ↓x_nil, ↓z_cons, ↓x_aug, ↓aug_0, ↓aug_s, ↓toI_k, ↓zs_nx, ↓zs_rt, ↓zs_bk, ↓zs_ct, ↓zf_nil, ↓zf_cons, ↓zk_nx, ↓zk_ct, ↓zk_bk, ↓zk_rt, ↓z_whl, ↓zw_nx, ↓zw_ct, ↓zw_bk, ↓zw_rt, ↓getK_0, ↓getK_s, ↓setK_0, ↓setK_s, ↓setsK_0, ↓setsK_s, ↓ownK_0, ↓ownK_s, ↓llow_0, ↓llow_n, ↓llow_s, ↓un_var, ↓un_con, ↓un_bin, ↓un_cmp, ↓un_idx, ↓un_slc, ↓un_ite, ↓un_call, ↓un_blt, ↓un_tup, ↓un_lst, ↓un_nil, ↓un_cons, ↓rt_n, ↓rt_f, ↓rt_t, ↓rt_nx, ↓ok_bi, ↓reduceIte, List.map_cons, List.map_nil, List.cons_append, List.nil_append, List.replicate, ↓o_pq, ↓o_p10, ↓o_p20, ↓o_p30, ↓o_p38, ↓o_p39, ↓o_p40, ↓o_p59, ↓o_p60, ↓o_p64, sl, List.length_cons, List.length_nil, decide_true, decide_false, Bool.false_eq_true, Bool.not_true, Bool.not_false, decide_eq_true_eq, Int.reduceEq, Int.reduceNe, Int.reduceLT, Int.reduceLE, Int.reduceNeg, Int.reduceAdd, Int.reduceSub, Int.reduceMul, Nat.reduceAdd, Nat.reduceLeDiff, Nat.reduceSub, Nat.reduceMul, Int.reduceToNat, Int.cast_ofNat_Int, ↓cat, ↓hk]
    refine ⟨_, _, ?_, ?_, rfl⟩
    · exact lin _ _ inferInstance
    · exact lin' _ _ inferInstance
  by_cases h3 : kind = 3
  · subst h3
    simp (maxSteps := 10000000) (disch := omega) only [↓r_var, ↓r_cI, ↓r_cB, ↓r_cN, ↓r_cS, ↓r_bin, ↓r_neg, ↓r_not, ↓r_cmp, ↓z_chn, ↓ch_b, ↓z_and, ↓an_b, ↓z_or, ↓or_b, ↓z_ite, ↓it_b, ↓r_tup, ↓r_lst, ↓r_idx, ↓r_slc, ↓r_call, ↓r_blt, ↓r_isi, ↓y_comp, ↓o_add, ↓o_sub, ↓o_neg, ↓o_mul, ↓o_modP, ↓o_fdivP, ↓o_lt, ↓o_le, ↓o_gt, ↓o_ge, ↓o_eq, ↓o_ne, ↓o_eqB, ↓o_neB, ↓o_isB, ↓o_isNotB, ↓o_isN, ↓o_isNotN, ↓o_ix0, ↓o_ix1, ↓o_ix2, ↓o_lx0, ↓o_lx1, ↓o_lx2, ↓o_lx3, ↓o_lenT, ↓o_lenL, ↓o_lenF, ↓o_listL, ↓o_listT, ↓o_listF, ↓o_tupL, ↓o_abs, ↓o_intI, ↓o_intB, ↓o_isiII, ↓o_isiBB, ↓o_isiTT, ↓o_isiLL, ↓o_ltP, ↓o_leP, ↓o_mnP2, ↓o_mxP2, ↓o_eqS, ↓o_k8, ↓o_k7, ↓o_eqP, ↓o_neP, ↓o_in2, ↓o_in3, ↓bu_f, ↓bu_t, ↓o_f1, ↓o_f2, ↓o_f3, ↓o_t1, ↓o_t2, ↓o_srtI, ↓o_srtP, ↓o_srtS, ↓o_srtT, ↓o_mn2, ↓o_mx2, ↓o_inP, ↓o_niP, ↓o_e00, ↓o_n00, ↓o_eq0, ↓o_ne0, ↓o_eqL, ↓o_neL, ↓r_nil, ↓r_cons, ↓r_tru, ↓i_val_, ↓i_T, ↓i_L, ↓i_F, ↓i_rng1_, ↓i_rng2_, ↓u_2, ↓u_3, ↓u_4, ↓u_l2, ↓u_l3, ↓u_l4, ↓u_n2, ↓u_n3, ↓u_n4, ↓u_nl2, ↓u_nl3, ↓u_nl4, ↓b_nm, ↓b_tp, ↓bw_nm, ↓bw_tp, ↓wip_0, ↓wip_s, ↓clk_0, ↓clk_s, ↓c_cons, ↓c_end, ↓z_set, ↓ps_n, ↓ps_l, ↓ps_s, ↓z_unp, ↓us_n, ↓z_app, ↓as_n, ↓as_l, ↓zz_for, ↓ws_T, ↓ws_F, ↓ws_S, ↓ws_Z, ↓z_for1, ↓z_for2, ↓y_ret, ↓re_n, ↓re_f, ↓re_v, ↓re_c, ↓ob_0, ↓ob_s, ↓x_expr, ↓x_ret0, ↓z_if, ↓if_b, ↓x_brk, ↓x_cnt, ↓x_pass, ↓x_nil, ↓z_cons, ↓x_aug, ↓aug_0, ↓aug_s, ↓toI_k, ↓zs_nx, ↓zs_rt, ↓zs_bk, ↓zs_ct, ↓zf_nil, ↓zf_cons, ↓zk_nx, ↓zk_ct, ↓zk_bk, ↓zk_rt, ↓z_whl, ↓zw_nx, ↓zw_ct, ↓zw_bk, ↓zw_rt, ↓getK_0, ↓getK_s, ↓setK_0, ↓setK_s, ↓setsK_0, ↓setsK_s, ↓ownK_0, ↓ownK_s, ↓llow_0, ↓llow_n, ↓llow_s, ↓un_var, ↓un_con, ↓un_bin, ↓un_cmp, ↓un_idx, ↓un_slc, ↓un_ite, ↓un_call, ↓un_blt, ↓un_tup, ↓un_lst, ↓un_nil, ↓un_cons, ↓rt_n, ↓rt_f, ↓rt_t, ↓rt_nx, ↓ok_bi, ↓reduceIte, List.map_cons, List.map_nil, List.cons_append, List.nil_append, List.replicate, ↓o_pq, ↓o_p10, ↓o_p20, ↓o_p30, ↓o_p38, ↓o_p39, ↓o_p40, ↓o_p59, ↓o_p60, ↓o_p64, sl, List.length_cons, List.length_nil, decide_true, decide_false, Bool.false_eq_true, Bool.not_true, Bool.not_false, decide_eq_true_eq, Int.reduceEq, Int.reduceNe, Int.reduceLT, Int.reduceLE, Int.reduceNeg, Int.reduceAdd, Int.reduceSub, Int.reduceMul, Nat.reduceAdd, Nat.reduceLeDiff, Nat.reduceSub, Nat.reduceMul, Int.reduceToNat, Int.cast_ofNat_Int]
    refine ⟨_, _, ?_, ?_, rfl⟩
    · exact (⟨by omega⟩ : Sz 10 (cell % 11 - 5)).up (by decide)
    · have a : cell / 11 % 3 / 2 = 0 ∨ cell / 11 % 3 / 2 = 1 := by omega
      rcases a with e | e <;> rw [e]
      · exact (⟨by omega⟩ : Sz 10 (2 * (cell % 11 - 5) + 0 * (1 + cell / 33 % 4))).up (by decide)
      · exact (⟨by omega⟩ : Sz 10 (2 * (cell % 11 - 5) + 1 * (1 + cell / 33 % 4))).up (by decide)
  by_cases h4 : kind = 4
  · subst h4
    simp (maxSteps := 10000000) (disch := omega) only [↓r_var, ↓r_cI, ↓r_cB, ↓r_cN, ↓r_cS, ↓r_bin, ↓r_neg, ↓r_not, ↓r_cmp, ↓z_chn, ↓ch_b, ↓z_and, ↓an_b, ↓z_or, ↓or_b, ↓z_ite, ↓it_b, ↓r_tup, ↓r_lst, ↓r_idx, ↓r_slc, ↓r_call, ↓r_blt, ↓r_isi, ↓y_comp, ↓o_add, ↓o_sub, ↓o_neg, ↓o_mul, ↓o_modP, ↓o_fdivP, ↓o_lt, ↓o_le, ↓o_gt, ↓o_ge, ↓o_eq, ↓o_ne, ↓o_eqB, ↓o_neB, ↓o_isB, ↓o_isNotB, ↓o_isN, ↓o_isNotN, ↓o_ix0, ↓o_ix1, ↓o_ix2, ↓o_lx0, ↓o_lx1, ↓o_lx2, ↓o_lx3, ↓o_lenT, ↓o_lenL, ↓o_lenF, ↓o_listL, ↓o_listT, ↓o_listF, ↓o_tupL, ↓o_abs, ↓o_intI, ↓o_intB, ↓o_isiII, ↓o_isiBB, ↓o_isiTT, ↓o_isiLL, ↓o_ltP, ↓o_leP, ↓o_mnP2, ↓o_mxP2, ↓o_eqS, ↓o_k8, ↓o_k7, ↓o_eqP, ↓o_neP, ↓o_in2, ↓o_in3, ↓bu_f, ↓bu_t, ↓o_f1, ↓o_f2, ↓o_f3, ↓o_t1, ↓o_t2, ↓o_srtI, ↓o_srtP, ↓o_srtS, ↓o_srtT, ↓o_mn2, ↓o_mx2, ↓o_inP, ↓o_niP, ↓o_e00, ↓o_n00, ↓o_eq0, ↓o_ne0, ↓o_eqL, ↓o_neL, ↓r_nil, ↓r_cons, ↓r_tru, ↓i_val_, ↓i_T, ↓i_L, ↓i_F, ↓i_rng1_, ↓i_rng2_, ↓u_2, ↓u_3, ↓u_4, ↓u_l2, ↓u_l3, ↓u_l4, ↓u_n2, ↓u_n3, ↓u_n4, ↓u_nl2, ↓u_nl3, ↓u_nl4, ↓b_nm, ↓b_tp, ↓bw_nm, ↓bw_tp, ↓wip_0, ↓wip_s, ↓clk_0, ↓clk_s, ↓c_cons, ↓c_end, ↓z_set, ↓ps_n, ↓ps_l, ↓ps_s, ↓z_unp, ↓us_n, ↓z_app, ↓as_n, ↓as_l, ↓zz_for, ↓ws_T, ↓ws_F, ↓ws_S, ↓ws_Z, ↓z_for1, ↓z_for2, ↓y_ret, ↓re_n, ↓re_f, ↓re_v, ↓re_c, ↓ob_0, ↓ob_s, ↓x_expr, ↓x_ret0, ↓z_if, ↓if_b, ↓x_brk, ↓x_cnt, ↓x_pass, ↓x_nil, ↓z_cons, ↓x_aug, ↓aug_0, ↓aug_s, ↓toI_k, ↓zs_nx, ↓zs_rt, ↓zs_bk, ↓zs_ct, ↓zf_nil, ↓zf_cons, ↓zk_nx, ↓zk_ct, ↓zk_bk, ↓zk_rt, ↓z_whl, ↓zw_nx, ↓zw_ct, ↓zw_bk, ↓zw_rt, ↓getK_0, ↓getK_s, ↓setK_0, ↓setK_s, ↓setsK_0, ↓setsK_s, ↓ownK_0, ↓ownK_s, ↓llow_0, ↓llow_n, ↓llow_s, ↓un_var, ↓un_con, ↓un_bin, ↓un_cmp, ↓un_idx, ↓un_slc, ↓un_ite, ↓un_call, ↓un_blt, ↓un_tup, ↓un_lst, ↓un_nil, ↓un_cons, ↓rt_n, ↓rt_f, ↓rt_t, ↓rt_nx, ↓ok_bi, ↓reduceIte, List.map_cons, List.map_nil, List.cons_append, List.nil_append, List.replicate, ↓o_pq, ↓o_p10, ↓o_p20, ↓o_p30, ↓o_p38, ↓o_p39, ↓o_p40, ↓o_p59, ↓o_p60, ↓o_p64, sl, List.length_cons, List.length_nil, decide_true, decide_false, Bool.false_eq_true, Bool.not_true, Bool.not_false, decide_eq_true_eq, Int.reduceEq, Int.reduceNe, Int.reduceLT, Int.reduceLE, Int.reduceNeg, Int.reduceAdd, Int.reduceSub, Int.reduceMul, Nat.reduceAdd, Nat.reduceLeDiff, Nat.reduceSub, Nat.reduceMul, Int.reduceToNat, Int.cast_ofNat_Int]
    refine ⟨_, _, ?_, ?_, rfl⟩
    · exact (inferInstance : Sz (11 + 10 + 1) (cell * 48271 % 2003 - 1001)).up (by decide)
    · exact (inferInstance : Sz (11 + 10 + 1) (cell * 69621 % 1999 - 999)).up (by decide)
  by_cases h5 : kind = 5
  · subst h5
    simp (maxSteps := 10000000) (disch := omega) only [↓r_var, ↓r_cI, ↓r_cB, ↓r_cN, ↓r_cS, ↓r_bin, ↓r_neg, ↓r_not, ↓r_cmp, ↓z_chn, ↓ch_b, ↓z_and, ↓an_b, ↓z_or, ↓or_b, ↓z_ite, ↓it_b, ↓r_tup, ↓r_lst, ↓r_idx, ↓r_slc, ↓r_call, ↓r_blt, ↓r_isi, ↓y_comp, ↓o_add, ↓o_sub, ↓o_neg, ↓o_mul, ↓o_modP, ↓o_fdivP, ↓o_lt, ↓o_le, ↓o_gt, ↓o_ge, ↓o_eq, ↓o_ne, ↓o_eqB, ↓o_neB, ↓o_isB, ↓o_isNotB, ↓o_isN, ↓o_isNotN, ↓o_ix0, ↓o_ix1, ↓o_ix2, ↓o_lx0, ↓o_lx1, ↓o_lx2, ↓o_lx3, ↓o_lenT, ↓o_lenL, ↓o_lenF, ↓o_listL, ↓o_listT, ↓o_listF, ↓o_tupL, ↓o_abs, ↓o_intI, ↓o_intB, ↓o_isiII, ↓o_isiBB, ↓o_isiTT, ↓o_isiLL, ↓o_ltP, ↓o_leP, ↓o_mnP2, ↓o_mxP2, ↓o_eqS, ↓o_k8, ↓o_k7, ↓o_eqP, ↓o_neP, ↓o_in2, ↓o_in3, ↓bu_f, ↓bu_t, ↓o_f1, ↓o_f2, ↓o_f3, ↓o_t1, ↓o_t2, ↓o_srtI, ↓o_srtP, ↓o_srtS, ↓o_srtT, ↓o_mn2, ↓o_mx2, ↓o_inP, ↓o_niP, ↓o_e00, ↓o_n00, ↓o_eq0, ↓o_ne0, ↓o_eqL, ↓o_neL, ↓r_nil, ↓r_cons, ↓r_tru, ↓i_val_, ↓i_T, ↓i_L, ↓i_F, ↓i_rng1_, ↓i_rng2_, ↓u_2, ↓u_3, ↓u_4, ↓u_l2, ↓u_l3, ↓u_l4, ↓u_n2, ↓u_n3, ↓u_n4, ↓u_nl2, ↓u_nl3, ↓u_nl4, ↓b_nm, ↓b_tp, ↓bw_nm, ↓bw_tp, ↓wip_0, ↓wip_s, ↓clk_0, ↓clk_s, ↓c_cons, ↓c_end, ↓z_set, ↓ps_n, ↓ps_l, ↓ps_s, ↓z_unp, ↓us_n, ↓z_app, ↓as_n, ↓as_l, ↓zz_for, ↓ws_T, ↓ws_F, ↓ws_S, ↓ws_Z, ↓z_for1, ↓z_for2, ↓y_ret, ↓re_n, ↓re_f, ↓re_v, ↓re_c, ↓ob_0, ↓ob_s, ↓x_expr, ↓x_ret0, ↓z_if, ↓if_b, ↓x_brk, ↓x_cnt, ↓x_pass, ↓x_nil, ↓z_cons, ↓x_aug, ↓aug_0, ↓aug_s, ↓toI_k, ↓zs_nx, ↓zs_rt, ↓zs_bk, ↓zs_ct, ↓zf_nil, ↓zf_cons, ↓zk_nx, ↓zk_ct, ↓zk_bk, ↓zk_rt, ↓z_whl, ↓zw_nx, ↓zw_ct, ↓zw_bk, ↓zw_rt, ↓getK_0, ↓getK_s, ↓setK_0, ↓setK_s, ↓setsK_0, ↓setsK_s, ↓ownK_0, ↓ownK_s, ↓llow_0, ↓llow_n, ↓llow_s, ↓un_var, ↓un_con, ↓un_bin, ↓un_cmp, ↓un_idx, ↓un_slc, ↓un_ite, ↓un_call, ↓un_blt, ↓un_tup, ↓un_lst, ↓un_nil, ↓un_cons, ↓rt_n, ↓rt_f, ↓rt_t, ↓rt_nx, ↓ok_bi, ↓reduceIte, List.map_cons, List.map_nil, List.cons_append, List.nil_append, List.replicate, ↓o_pq, ↓o_p10, ↓o_p20, ↓o_p30, ↓o_p38, ↓o_p39, ↓o_p40, ↓o_p59, ↓o_p60, ↓o_p64, sl, List.length_cons, List.length_nil, decide_true, decide_false, Bool.false_eq_true, Bool.not_true, Bool.not_false, decide_eq_true_eq, Int.reduceEq, Int.reduceNe, Int.reduceLT, Int.reduceLE, Int.reduceNeg, Int.reduceAdd, Int.reduceSub, Int.reduceMul, Nat.reduceAdd, Nat.reduceLeDiff, Nat.reduceSub, Nat.reduceMul, Int.reduceToNat, Int.cast_ofNat_Int]
    refine ⟨_, _, ?_, ?_, rfl⟩
    · exact (⟨by have := P38_eq; generalize cell * K8 = t; omega⟩ : Sz 130 (cell * K8 % 170141183460469231731687303715884105727 - P38)).up (by decide)
    · exact (⟨by have := P30_eq; generalize cell * K7 = t; omega⟩ : Sz 130 (P30 - cell * K7 % 162259276829213363391578010288127)).up (by decide)
  · simp (maxSteps := 10000000) (disch := omega) only [↓r_var, ↓r_cI, ↓r_cB, ↓r_cN, ↓r_cS, ↓r_bin, ↓r_neg, ↓r_not, ↓r_cmp, ↓z_chn, ↓ch_b, ↓z_and, ↓an_b, ↓z_or, ↓or_b, ↓z_ite, ↓it_b, ↓r_tup, ↓r_lst, ↓r_idx, ↓r_slc, ↓r_call, ↓r_blt, ↓r_isi, ↓y_comp, ↓o_add, ↓o_sub, ↓o_neg, ↓o_mul, ↓o_modP, ↓o_fdivP, ↓o_lt, ↓o_le, ↓o_gt, ↓o_ge, ↓o_eq, ↓o_ne, ↓o_eqB, ↓o_neB, ↓o_isB, ↓o_isNotB, ↓o_isN, ↓o_isNotN, ↓o_ix0, ↓o_ix1, ↓o_ix2, ↓o_lx0, ↓o_lx1, ↓o_lx2, ↓o_lx3, ↓o_lenT, ↓o_lenL, ↓o_lenF, ↓o_listL, ↓o_listT, ↓o_listF, ↓o_tupL, ↓o_abs, ↓o_intI, ↓o_intB, ↓o_isiII, ↓o_isiBB, ↓o_isiTT, ↓o_isiLL, ↓o_ltP, ↓o_leP, ↓o_mnP2, ↓o_mxP2, ↓o_eqS, ↓o_k8, ↓o_k7, ↓o_eqP, ↓o_neP, ↓o_in2, ↓o_in3, ↓bu_f, ↓bu_t, ↓o_f1, ↓o_f2, ↓o_f3, ↓o_t1, ↓o_t2, ↓o_srtI, ↓o_srtP, ↓o_srtS, ↓o_srtT, ↓o_mn2, ↓o_mx2, ↓o_inP, ↓o_niP, ↓o_e00, ↓o_n00, ↓o_eq0, ↓o_ne0, ↓o_eqL, ↓o_neL, ↓r_nil, ↓r_cons, ↓r_tru, ↓i_val_, ↓i_T, ↓i_L, ↓i_F, ↓i_rng1_, ↓i_rng2_, ↓u_2, ↓u_3, ↓u_4, ↓u_l2, ↓u_l3, ↓u_l4, ↓u_n2, ↓u_n3, ↓u_n4, ↓u_nl2, ↓u_nl3, ↓u_nl4, ↓b_nm, ↓b_tp, ↓bw_nm, ↓bw_tp, ↓wip_0, ↓wip_s, ↓clk_0, ↓clk_s, ↓c_cons, ↓c_end, ↓z_set, ↓ps_n, ↓ps_l, ↓ps_s, ↓z_unp, ↓us_n, ↓z_app, ↓as_n, ↓as_l, ↓zz_for, ↓ws_T, ↓ws_F, ↓ws_S, ↓ws_Z, ↓z_for1, ↓z_for2, ↓y_ret, ↓re_n, ↓re_f, ↓re_v, ↓re_c, ↓ob_0, ↓ob_s, ↓x_expr, ↓x_ret0, ↓z_if, ↓if_b, ↓x_brk, ↓x_cnt, ↓x_pass, ↓x_nil, ↓z_cons, ↓x_aug, ↓aug_0, ↓aug_s, ↓toI_k, ↓zs_nx, ↓zs_rt, ↓zs_bk, ↓zs_ct, ↓zf_nil, ↓zf_cons, ↓zk_nx, ↓zk_ct, ↓zk_bk, ↓zk_rt, ↓z_whl, ↓zw_nx, ↓zw_ct, ↓zw_bk, ↓zw_rt, ↓getK_0, ↓getK_s, ↓setK_0, ↓setK_s, ↓setsK_0, ↓setsK_s, ↓ownK_0, ↓ownK_s, ↓llow_0, ↓llow_n, ↓llow_s, ↓un_var, ↓un_con, ↓un_bin, ↓un_cmp, ↓un_idx, ↓un_slc, ↓un_ite, ↓un_call, ↓un_blt, ↓un_tup, ↓un_lst, ↓un_nil, ↓un_cons, ↓rt_n, ↓rt_f, ↓rt_t, ↓rt_nx, ↓ok_bi, ↓reduceIte, List.map_cons, List.map_nil, List.cons_append, List.nil_append, List.replicate, ↓o_pq, ↓o_p10, ↓o_p20, ↓o_p30, ↓o_p38, ↓o_p39, ↓o_p40, ↓o_p59, ↓o_p60, ↓o_p64, sl, List.length_cons, List.length_nil, decide_true, decide_false, Bool.false_eq_true, Bool.not_true, Bool.not_false, decide_eq_true_eq, Int.reduceEq, Int.reduceNe, Int.reduceLT, Int.reduceLE, Int.reduceNeg, Int.reduceAdd, Int.reduceSub, Int.reduceMul, Nat.reduceAdd, Nat.reduceLeDiff, Nat.reduceSub, Nat.reduceMul, Int.reduceToNat, Int.cast_ofNat_Int, h1, h2, h3, h4, h5]
    refine ⟨_, _, ?_, ?_, rfl⟩
    · exact (⟨by omega⟩ : Sz 10 (cell % 4)).up (by decide)
    · exact (⟨by omega⟩ : Sz 10 (cell / 4 % 4)).up (by decide)
theorem spot8_ok {n : Nat} (hn : 1 ≤ n) {kind cell head : Int} [Sz 1048578 cell] [Sz 1048578 head] (hk : kind ≤ 7) :
    ∃ (x y : Int), Sz 200 x ∧ Sz 200 y ∧ callV T F n 6 [.int kind, .int cell, .int head] = .ok (.tup [.int x, .int y]) := by
  rw [call_run false (by omega) (show T 6 = some f6 from rfl) rfl rfl]
  by_cases h5 : 5 < kind
  · have hx : ∃ k', k' ≤ 5 ∧ ∀ {β : Type} {q : U → VR β}, (ixU (.lst [.int 0, .int 3, .int 0, .int 5]) (.int (2 * (kind - 6) + cell / 16 % 2))).bind q = q (.int k') := by
      have h : 2 * (kind - 6) + cell / 16 % 2 = 0 ∨ 2 * (kind - 6) + cell / 16 % 2 = 1 ∨ 2 * (kind - 6) + cell / 16 % 2 = 2 ∨ 2 * (kind - 6) + cell / 16 % 2 = 3 := by omega
      rcases h with h | h | h | h <;> rw [h]
      · exact ⟨0, by omega, o_lx0⟩
      · exact ⟨3, by omega, o_lx1⟩
      · exact ⟨0, by omega, o_lx2⟩
      · exact ⟨5, by omega, o_lx3⟩
    obtain ⟨k', hk', hx⟩ := hx
    obtain ⟨x, y, s1, s2, e⟩ := spot_tail (C := callV T F (n - 1)) (kind := k') (cell := cell) (head := head) (o3 := none) (o4 := none) (o5 := none) (o6 := none) hk'
    refine ⟨x, y, s1, s2, ?_⟩
    rw [← e]
    have sk : Sz 3 (kind - 6) := ⟨by omega⟩
    rw [show (f6).body = _ from rfl]
    unfold f6
    dsimp only
    rw [z_cons]
    simp (maxSteps := 10000000) (disch := omega) only [↓r_var, ↓r_cI, ↓r_cB, ↓r_cN, ↓r_cS, ↓r_bin, ↓r_neg, ↓r_not, ↓r_cmp, ↓z_chn, ↓ch_b, ↓z_and, ↓an_b, ↓z_or, ↓or_b, ↓z_ite, ↓it_b, ↓r_tup, ↓r_lst, ↓r_idx, ↓r_slc, ↓r_call, ↓r_blt, ↓r_isi, ↓y_comp, ↓o_add, ↓o_sub, ↓o_neg, ↓o_mul, ↓o_modP, ↓o_fdivP, ↓o_lt, ↓o_le, ↓o_gt, ↓o_ge, ↓o_eq, ↓o_ne, ↓o_eqB, ↓o_neB, ↓o_isB, ↓o_isNotB, ↓o_isN, ↓o_isNotN, ↓o_ix0, ↓o_ix1, ↓o_ix2, ↓o_lx0, ↓o_lx1, ↓o_lx2, ↓o_lx3, ↓o_lenT, ↓o_lenL, ↓o_lenF, ↓o_listL, ↓o_listT, ↓o_listF, ↓o_tupL, ↓o_abs, ↓o_intI, ↓o_intB, ↓o_isiII, ↓o_isiBB, ↓o_isiTT, ↓o_isiLL, ↓o_ltP, ↓o_leP, ↓o_mnP2, ↓o_mxP2, ↓o_eqS, ↓o_k8, ↓o_k7, ↓o_eqP, ↓o_neP, ↓o_in2, ↓o_in3, ↓bu_f, ↓bu_t, ↓o_f1, ↓o_f2, ↓o_f3, ↓o_t1, ↓o_t2, ↓o_srtI, ↓o_srtP, ↓o_srtS, ↓o_srtT, ↓o_mn2, ↓o_mx2, ↓o_inP, ↓o_niP, ↓o_e00, ↓o_n00, ↓o_eq0, ↓o_ne0, ↓o_eqL, ↓o_neL, ↓r_nil, ↓r_cons, ↓r_tru, ↓i_val_, ↓i_T, ↓i_L, ↓i_F, ↓i_rng1_, ↓i_rng2_, ↓u_2, ↓u_3, ↓u_4, ↓u_l2, ↓u_l3, ↓u_l4, ↓u_n2, ↓u_n3, ↓u_n4, ↓u_nl2, ↓u_nl3, ↓u_nl4, ↓b_nm, ↓b_tp, ↓bw_nm, ↓bw_tp, ↓wip_0, ↓wip_s, ↓clk_0, ↓clk_s, ↓c_cons, ↓c_end, ↓z_set, ↓ps_n, ↓ps_l, ↓ps_s, ↓z_unp, ↓us_n, ↓z_app, ↓as_n, ↓as_l, ↓zz_for, ↓ws_T, ↓ws_F, ↓ws_S, ↓ws_Z, ↓z_for1, ↓z_for2, ↓y_ret, ↓re_n, ↓re_f, ↓re_v, ↓re_c, ↓ob_0, ↓ob_s, ↓x_expr, ↓x_ret0, ↓z_if, ↓if_b, ↓x_brk, ↓x_cnt, ↓x_pass, ↓x_nil, ↓x_aug, ↓aug_0, ↓aug_s, ↓toI_k, ↓zs_nx, ↓zs_rt, ↓zs_bk, ↓zs_ct, ↓zf_nil, ↓zf_cons, ↓zk_nx, ↓zk_ct, ↓zk_bk, ↓zk_rt, ↓z_whl, ↓zw_nx, ↓zw_ct, ↓zw_bk, ↓zw_rt, ↓getK_0, ↓getK_s, ↓setK_0, ↓setK_s, ↓setsK_0, ↓setsK_s, ↓ownK_0, ↓ownK_s, ↓llow_0, ↓llow_n, ↓llow_s, ↓un_var, ↓un_con, ↓un_bin, ↓un_cmp, ↓un_idx, ↓un_slc, ↓un_ite, ↓un_call, ↓un_blt, ↓un_tup, ↓un_lst, ↓un_nil, ↓un_cons, ↓rt_n, ↓rt_f, ↓rt_t, ↓rt_nx, ↓ok_bi, ↓reduceIte, List.map_cons, List.map_nil, List.cons_append, List.nil_append, List.replicate, ↓o_pq, ↓o_p10, ↓o_p20, ↓o_p30, ↓o_p38, ↓o_p39, ↓o_p40, ↓o_p59, ↓o_p60, ↓o_p64, sl, List.length_cons, List.length_nil, decide_true, decide_false, Bool.false_eq_true, Bool.not_true, Bool.not_false, decide_eq_true_eq, Int.reduceEq, Int.reduceNe, Int.reduceLT, Int.reduceLE, Int.reduceNeg, Int.reduceAdd, Int.reduceSub, Int.reduceMul, Nat.reduceAdd, Nat.reduceLeDiff, Nat.reduceSub, Nat.reduceMul, Int.reduceToNat, Int.cast_ofNat_Int, z_cons, ↓hx, h5]
  · obtain ⟨x, y, s1, s2, e⟩ := spot_tail (C := callV T F (n - 1)) (kind := kind) (cell := cell) (head := head) (o3 := none) (o4 := none) (o5 := none) (o6 := none) (by omega)
    refine ⟨x, y, s1, s2, ?_⟩
    rw [← e]
    unfold f6
    dsimp only
    rw [z_cons]
    simp (maxSteps := 10000000) (disch := omega) only [↓r_var, ↓r_cI, ↓r_cB, ↓r_cN, ↓r_cS, ↓r_bin, ↓r_neg, ↓r_not, ↓r_cmp, ↓z_chn, ↓ch_b, ↓z_and, ↓an_b, ↓z_or, ↓or_b, ↓z_ite, ↓it_b, ↓r_tup, ↓r_lst, ↓r_idx, ↓r_slc, ↓r_call, ↓r_blt, ↓r_isi, ↓y_comp, ↓o_add, ↓o_sub, ↓o_neg, ↓o_mul, ↓o_modP, ↓o_fdivP, ↓o_lt, ↓o_le, ↓o_gt, ↓o_ge, ↓o_eq, ↓o_ne, ↓o_eqB, ↓o_neB, ↓o_isB, ↓o_isNotB, ↓o_isN, ↓o_isNotN, ↓o_ix0, ↓o_ix1, ↓o_ix2, ↓o_lx0, ↓o_lx1, ↓o_lx2, ↓o_lx3, ↓o_lenT, ↓o_lenL, ↓o_lenF, ↓o_listL, ↓o_listT, ↓o_listF, ↓o_tupL, ↓o_abs, ↓o_intI, ↓o_intB, ↓o_isiII, ↓o_isiBB, ↓o_isiTT, ↓o_isiLL, ↓o_ltP, ↓o_leP, ↓o_mnP2, ↓o_mxP2, ↓o_eqS, ↓o_k8, ↓o_k7, ↓o_eqP, ↓o_neP, ↓o_in2, ↓o_in3, ↓bu_f, ↓bu_t, ↓o_f1, ↓o_f2, ↓o_f3, ↓o_t1, ↓o_t2, ↓o_srtI, ↓o_srtP, ↓o_srtS, ↓o_srtT, ↓o_mn2, ↓o_mx2, ↓o_inP, ↓o_niP, ↓o_e00, ↓o_n00, ↓o_eq0, ↓o_ne0, ↓o_eqL, ↓o_neL, ↓r_nil, ↓r_cons, ↓r_tru, ↓i_val_, ↓i_T, ↓i_L, ↓i_F, ↓i_rng1_, ↓i_rng2_, ↓u_2, ↓u_3, ↓u_4, ↓u_l2, ↓u_l3, ↓u_l4, ↓u_n2, ↓u_n3, ↓u_n4, ↓u_nl2, ↓u_nl3, ↓u_nl4, ↓b_nm, ↓b_tp, ↓bw_nm, ↓bw_tp, ↓wip_0, ↓wip_s, ↓clk_0, ↓clk_s, ↓c_cons, ↓c_end, ↓z_set, ↓ps_n, ↓ps_l, ↓ps_s, ↓z_unp, ↓us_n, ↓z_app, ↓as_n, ↓as_l, ↓zz_for, ↓ws_T, ↓ws_F, ↓ws_S, ↓ws_Z, ↓z_for1, ↓z_for2, ↓y_ret, ↓re_n, ↓re_f, ↓re_v, ↓re_c, ↓ob_0, ↓ob_s, ↓x_expr, ↓x_ret0, ↓z_if, ↓if_b, ↓x_brk, ↓x_cnt, ↓x_pass, ↓x_nil, ↓x_aug, ↓aug_0, ↓aug_s, ↓toI_k, ↓zs_nx, ↓zs_rt, ↓zs_bk, ↓zs_ct, ↓zf_nil, ↓zf_cons, ↓zk_nx, ↓zk_ct, ↓zk_bk, ↓zk_rt, ↓z_whl, ↓zw_nx, ↓zw_ct, ↓zw_bk, ↓zw_rt, ↓getK_0, ↓getK_s, ↓setK_0, ↓setK_s, ↓setsK_0, ↓setsK_s, ↓ownK_0, ↓ownK_s, ↓llow_0, ↓llow_n, ↓llow_s, ↓un_var, ↓un_con, ↓un_bin, ↓un_cmp, ↓un_idx, ↓un_slc, ↓un_ite, ↓un_call, ↓un_blt, ↓un_tup, ↓un_lst, ↓un_nil, ↓un_cons, ↓rt_n, ↓rt_f, ↓rt_t, ↓rt_nx, ↓ok_bi, ↓reduceIte, List.map_cons, List.map_nil, List.cons_append, List.nil_append, List.replicate, ↓o_pq, ↓o_p10, ↓o_p20, ↓o_p30, ↓o_p38, ↓o_p39, ↓o_p40, ↓o_p59, ↓o_p60, ↓o_p64, sl, List.length_cons, List.length_nil, decide_true, decide_false, Bool.false_eq_true, Bool.not_true, Bool.not_false, decide_eq_true_eq, Int.reduceEq, Int.reduceNe, Int.reduceLT, Int.reduceLE, Int.reduceNeg, Int.reduceAdd, Int.reduceSub, Int.reduceMul, Nat.reduceAdd, Nat.reduceLeDiff, Nat.reduceSub, Nat.reduceMul, Int.reduceToNat, Int.cast_ofNat_Int, h5]

theorem snth {ns : List Int} (hs : ∀ z ∈ ns, Sz 1048578 z) (k : Int) : Sz 1048578 (nth ns k) := by
  unfold nth
  rw [List.getD_eq_getElem?_getD]
  cases e : ns[k.toNat]? with
  | none => exact (sz_0.up (by decide) : Sz 1048578 0)
  | some z => exact hs z (List.mem_of_getElem? e)
theorem places_ok {n : Nat} (hn : 3 ≤ n) {ns : List Int} (hs : ∀ z ∈ ns, Sz 1048578 z) {m : Int} (hm : 0 ≤ m ∧ m ≤ 60) :
    ∃ u, callV T F n 7 [scr ns, .int m] = .ok u ∧ ∃ ps : List Pt, (ps.length : Int) ≤ m ∧ ps.Nodup ∧ (∀ p ∈ ps, Sz 200 p.1 ∧ Sz 200 p.2) ∧ u = .lst (ps.map ptU) := by
  obtain ⟨most, rfl⟩ : ∃ k : Nat, m = k := ⟨m.toNat, by omega⟩
  have hc : cutU (ns.map U.int) (some 3) (some (3 + (most : Int))) = ((ns.take (3 + most)).drop 3).map U.int := by
    rw [show (3 : Int) = ((3 : Nat) : Int) from rfl, show ((3 : Nat) : Int) + (most : Int) = ((3 + most : Nat) : Int) by omega, cut_mid, List.map_drop, List.map_take]
  generalize hsub : (ns.take (3 + most)).drop 3 = sub at hc
  have hin : ∀ z ∈ sub, Sz 1048578 z := fun z hz => by
    rw [← hsub] at hz
    exact hs z (List.mem_of_mem_take (List.mem_of_mem_drop hz))
  have hl : sub.length ≤ most := by rw [← hsub, List.length_drop, List.length_take]; omega
  have s0 := snth hs 2
  rw [call_run true (by omega) (show T 7 = some f7 from rfl) rfl rfl]
  simp (maxSteps := 10000000) (disch := omega) only [f7, ↓r_var, ↓r_cI, ↓r_cB, ↓r_cN, ↓r_cS, ↓r_bin, ↓r_neg, ↓r_not, ↓r_cmp, ↓z_chn, ↓ch_b, ↓z_and, ↓an_b, ↓z_or, ↓or_b, ↓z_ite, ↓it_b, ↓r_tup, ↓r_lst, ↓r_idx, ↓r_slc, ↓r_call, ↓r_blt, ↓r_isi, ↓y_comp, ↓o_add, ↓o_sub, ↓o_neg, ↓o_mul, ↓o_modP, ↓o_fdivP, ↓o_lt, ↓o_le, ↓o_gt, ↓o_ge, ↓o_eq, ↓o_ne, ↓o_eqB, ↓o_neB, ↓o_isB, ↓o_isNotB, ↓o_isN, ↓o_isNotN, ↓o_ix0, ↓o_ix1, ↓o_ix2, ↓o_lx0, ↓o_lx1, ↓o_lx2, ↓o_lx3, ↓o_lenT, ↓o_lenL, ↓o_lenF, ↓o_listL, ↓o_listT, ↓o_listF, ↓o_tupL, ↓o_abs, ↓o_intI, ↓o_intB, ↓o_isiII, ↓o_isiBB, ↓o_isiTT, ↓o_isiLL, ↓o_ltP, ↓o_leP, ↓o_mnP2, ↓o_mxP2, ↓o_eqS, ↓o_k8, ↓o_k7, ↓o_eqP, ↓o_neP, ↓o_in2, ↓o_in3, ↓bu_f, ↓bu_t, ↓o_f1, ↓o_f2, ↓o_f3, ↓o_t1, ↓o_t2, ↓o_srtI, ↓o_srtP, ↓o_srtS, ↓o_srtT, ↓o_mn2, ↓o_mx2, ↓o_inP, ↓o_niP, ↓o_e00, ↓o_n00, ↓o_eq0, ↓o_ne0, ↓o_eqL, ↓o_neL, ↓r_nil, ↓r_cons, ↓r_tru, ↓i_val_, ↓i_T, ↓i_L, ↓i_F, ↓i_rng1_, ↓i_rng2_, ↓u_2, ↓u_3, ↓u_4, ↓u_l2, ↓u_l3, ↓u_l4, ↓u_n2, ↓u_n3, ↓u_n4, ↓u_nl2, ↓u_nl3, ↓u_nl4, ↓b_nm, ↓b_tp, ↓bw_nm, ↓bw_tp, ↓wip_0, ↓wip_s, ↓clk_0, ↓clk_s, ↓z_set, ↓ps_n, ↓ps_l, ↓ps_s, ↓z_unp, ↓us_n, ↓z_app, ↓as_n, ↓as_l, ↓zz_for, ↓ws_T, ↓ws_F, ↓ws_S, ↓ws_Z, ↓z_for1, ↓z_for2, ↓y_ret, ↓re_n, ↓re_f, ↓re_v, ↓re_c, ↓ob_0, ↓ob_s, ↓x_expr, ↓x_ret0, ↓z_if, ↓if_b, ↓x_brk, ↓x_cnt, ↓x_pass, ↓x_nil, ↓z_cons, ↓x_aug, ↓aug_0, ↓aug_s, ↓toI_k, ↓zs_nx, ↓zs_rt, ↓zs_bk, ↓zs_ct, ↓zk_nx, ↓zk_ct, ↓zk_bk, ↓zk_rt, ↓z_whl, ↓zw_nx, ↓zw_ct, ↓zw_bk, ↓zw_rt, ↓getK_0, ↓getK_s, ↓setK_0, ↓setK_s, ↓setsK_0, ↓setsK_s, ↓ownK_0, ↓ownK_s, ↓llow_0, ↓llow_n, ↓llow_s, ↓un_var, ↓un_con, ↓un_bin, ↓un_cmp, ↓un_idx, ↓un_slc, ↓un_ite, ↓un_call, ↓un_blt, ↓un_tup, ↓un_lst, ↓un_nil, ↓un_cons, ↓rt_n, ↓rt_f, ↓rt_t, ↓rt_nx, ↓ok_bi, ↓reduceIte, List.map_cons, List.map_nil, List.cons_append, List.nil_append, List.replicate, ↓o_pq, ↓o_p10, ↓o_p20, ↓o_p30, ↓o_p38, ↓o_p39, ↓o_p40, ↓o_p59, ↓o_p60, ↓o_p64, sl, List.length_cons, List.length_nil, decide_true, decide_false, Bool.false_eq_true, Bool.not_true, Bool.not_false, decide_eq_true_eq, Int.reduceEq, Int.reduceNe, Int.reduceLT, Int.reduceLE, Int.reduceNeg, Int.reduceAdd, Int.reduceSub, Int.reduceMul, Nat.reduceAdd, Nat.reduceLeDiff, Nat.reduceSub, Nat.reduceMul, Int.reduceToNat, Int.cast_ofNat_Int, ↓o_slcF, hc]
  obtain ⟨en', e1, acc, o3, o4, ha, hd, hb, rfl⟩ := fors_ix (f := U.int) (fr := F) (C := callV T F (n - 1)) (tg := .nm 3) (b := (.cons (.set 4 (.call 6 (.cons (.bin .mod (.call 5 (.cons (.var 0) (.cons (.con (.int 0)) .nil))) (.con (.int 8))) (.cons (.var 3) (.cons (.call 5 (.cons (.var 0) (.cons (.con (.int 2)) .nil))) .nil))))) (.cons (.ifs (.cmp .notIn (.var 4) (.var 2)) (.cons (.app 2 (.var 4)) .nil) .nil) .nil)))
    (P := fun (s : Nat) (en : VEnv) => ∃ (acc : List Pt) (o3 o4 : Option (Bool × U)), acc.length ≤ s ∧ acc.Nodup ∧ (∀ p ∈ acc, Sz 200 p.1 ∧ Sz 200 p.2) ∧ en = [some (false, scr ns), some (false, .int (most : Int)), some (true, .lst (acc.map ptU)), o3, o4])
    (xs := sub) (en := [some (false, scr ns), some (false, .int (most : Int)), some (true, .lst []), none, none]) ⟨[], none, none, Nat.le_refl _, List.nodup_nil, fun p hp => (by cases hp), rfl⟩ (by
      rintro i z hz en ⟨acc, o3, o4, ha, hd, hb, rfl⟩
      have hi : i < sub.length := (List.getElem?_eq_some_iff.mp hz).1
      have sz := hin z (List.mem_of_getElem? hz)
      obtain ⟨x, y, sx, sy, e⟩ := spot8_ok (n := n - 1) (by omega) (kind := nth ns 0 % 8) (cell := z) (head := nth ns 2) (by omega)
      have ek : ∀ {β : Type} {q : U → VR β}, _ := fun {β q} => bi_of (k := q) e
      have hsz : (acc.map ptU).length < sizeLine := by
        rw [List.length_map]
        exact small1000 (by omega)
      by_cases c : (x, y) ∈ acc
      · refine ⟨_, [some (false, scr ns), some (false, .int (most : Int)), some (true, .lst (acc.map ptU)), some (false, .int z), some (false, .tup [.int x, .int y])], rfl, .inl ?_, acc, _, _, by omega, hd, hb, rfl⟩
        rw [← bind_id (exVB _ _ _ _)]
        simp (maxSteps := 10000000) (disch := omega) only [↓r_var, ↓r_cI, ↓r_cB, ↓r_cN, ↓r_cS, ↓r_bin, ↓r_neg, ↓r_not, ↓r_cmp, ↓z_chn, ↓ch_b, ↓z_and, ↓an_b, ↓z_or, ↓or_b, ↓z_ite, ↓it_b, ↓r_tup, ↓r_lst, ↓r_idx, ↓r_slc, ↓r_call, ↓r_blt, ↓r_isi, ↓y_comp, ↓o_add, ↓o_sub, ↓o_neg, ↓o_mul, ↓o_modP, ↓o_fdivP, ↓o_lt, ↓o_le, ↓o_gt, ↓o_ge, ↓o_eq, ↓o_ne, ↓o_eqB, ↓o_neB, ↓o_isB, ↓o_isNotB, ↓o_isN, ↓o_isNotN, ↓o_ix0, ↓o_ix1, ↓o_ix2, ↓o_lx0, ↓o_lx1, ↓o_lx2, ↓o_lx3, ↓o_lenT, ↓o_lenL, ↓o_lenF, ↓o_listL, ↓o_listT, ↓o_listF, ↓o_tupL, ↓o_abs, ↓o_intI, ↓o_intB, ↓o_isiII, ↓o_isiBB, ↓o_isiTT, ↓o_isiLL, ↓o_ltP, ↓o_leP, ↓o_mnP2, ↓o_mxP2, ↓o_eqS, ↓o_k8, ↓o_k7, ↓o_eqP, ↓o_neP, ↓o_in2, ↓o_in3, ↓bu_f, ↓bu_t, ↓o_f1, ↓o_f2, ↓o_f3, ↓o_t1, ↓o_t2, ↓o_srtI, ↓o_srtP, ↓o_srtS, ↓o_srtT, ↓o_mn2, ↓o_mx2, ↓o_inP, ↓o_niP, ↓o_e00, ↓o_n00, ↓o_eq0, ↓o_ne0, ↓o_eqL, ↓o_neL, ↓r_nil, ↓r_cons, ↓r_tru, ↓i_val_, ↓i_T, ↓i_L, ↓i_F, ↓i_rng1_, ↓i_rng2_, ↓u_2, ↓u_3, ↓u_4, ↓u_l2, ↓u_l3, ↓u_l4, ↓u_n2, ↓u_n3, ↓u_n4, ↓u_nl2, ↓u_nl3, ↓u_nl4, ↓b_nm, ↓b_tp, ↓bw_nm, ↓bw_tp, ↓wip_0, ↓wip_s, ↓clk_0, ↓clk_s, ↓c_cons, ↓c_end, ↓z_set, ↓ps_n, ↓ps_l, ↓ps_s, ↓z_unp, ↓us_n, ↓z_app, ↓as_n, ↓as_l, ↓zz_for, ↓ws_T, ↓ws_F, ↓ws_S, ↓ws_Z, ↓z_for1, ↓z_for2, ↓y_ret, ↓re_n, ↓re_f, ↓re_v, ↓re_c, ↓ob_0, ↓ob_s, ↓x_expr, ↓x_ret0, ↓z_if, ↓if_b, ↓x_brk, ↓x_cnt, ↓x_pass, ↓x_nil, ↓z_cons, ↓x_aug, ↓aug_0, ↓aug_s, ↓toI_k, ↓zs_nx, ↓zs_rt, ↓zs_bk, ↓zs_ct, ↓zf_nil, ↓zf_cons, ↓zk_nx, ↓zk_ct, ↓zk_bk, ↓zk_rt, ↓z_whl, ↓zw_nx, ↓zw_ct, ↓zw_bk, ↓zw_rt, ↓getK_0, ↓getK_s, ↓setK_0, ↓setK_s, ↓setsK_0, ↓setsK_s, ↓ownK_0, ↓ownK_s, ↓llow_0, ↓llow_n, ↓llow_s, ↓un_var, ↓un_con, ↓un_bin, ↓un_cmp, ↓un_idx, ↓un_slc, ↓un_ite, ↓un_call, ↓un_blt, ↓un_tup, ↓un_lst, ↓un_nil, ↓un_cons, ↓rt_n, ↓rt_f, ↓rt_t, ↓rt_nx, ↓ok_bi, ↓reduceIte, List.map_cons, List.map_nil, List.cons_append, List.nil_append, List.replicate, ↓o_pq, ↓o_p10, ↓o_p20, ↓o_p30, ↓o_p38, ↓o_p39, ↓o_p40, ↓o_p59, ↓o_p60, ↓o_p64, sl, List.length_cons, List.length_nil, decide_true, decide_false, Bool.false_eq_true, Bool.not_true, Bool.not_false, decide_eq_true_eq, Int.reduceEq, Int.reduceNe, Int.reduceLT, Int.reduceLE, Int.reduceNeg, Int.reduceAdd, Int.reduceSub, Int.reduceMul, Nat.reduceAdd, Nat.reduceLeDiff, Nat.reduceSub, Nat.reduceMul, Int.reduceToNat, Int.cast_ofNat_Int, List.set, ↓at_k, ↓ek, c]
      · refine ⟨_, [some (false, scr ns), some (false, .int (most : Int)), some (true, .lst ((acc ++ [(x, y)]).map ptU)), some (false, .int z), some (false, .tup [.int x, .int y])], rfl, .inl ?_, acc ++ [(x, y)], _, _, by simp; omega, ?_, fun p hp => ?_, rfl⟩
        · rw [List.map_append, ← bind_id (exVB _ _ _ _)]
          simp (maxSteps := 10000000) (disch := omega) only [↓r_var, ↓r_cI, ↓r_cB, ↓r_cN, ↓r_cS, ↓r_bin, ↓r_neg, ↓r_not, ↓r_cmp, ↓z_chn, ↓ch_b, ↓z_and, ↓an_b, ↓z_or, ↓or_b, ↓z_ite, ↓it_b, ↓r_tup, ↓r_lst, ↓r_idx, ↓r_slc, ↓r_call, ↓r_blt, ↓r_isi, ↓y_comp, ↓o_add, ↓o_sub, ↓o_neg, ↓o_mul, ↓o_modP, ↓o_fdivP, ↓o_lt, ↓o_le, ↓o_gt, ↓o_ge, ↓o_eq, ↓o_ne, ↓o_eqB, ↓o_neB, ↓o_isB, ↓o_isNotB, ↓o_isN, ↓o_isNotN, ↓o_ix0, ↓o_ix1, ↓o_ix2, ↓o_lx0, ↓o_lx1, ↓o_lx2, ↓o_lx3, ↓o_lenT, ↓o_lenL, ↓o_lenF, ↓o_listL, ↓o_listT, ↓o_listF, ↓o_tupL, ↓o_abs, ↓o_intI, ↓o_intB, ↓o_isiII, ↓o_isiBB, ↓o_isiTT, ↓o_isiLL, ↓o_ltP, ↓o_leP, ↓o_mnP2, ↓o_mxP2, ↓o_eqS, ↓o_k8, ↓o_k7, ↓o_eqP, ↓o_neP, ↓o_in2, ↓o_in3, ↓bu_f, ↓bu_t, ↓o_f1, ↓o_f2, ↓o_f3, ↓o_t1, ↓o_t2, ↓o_srtI, ↓o_srtP, ↓o_srtS, ↓o_srtT, ↓o_mn2, ↓o_mx2, ↓o_inP, ↓o_niP, ↓o_e00, ↓o_n00, ↓o_eq0, ↓o_ne0, ↓o_eqL, ↓o_neL, ↓r_nil, ↓r_cons, ↓r_tru, ↓i_val_, ↓i_T, ↓i_L, ↓i_F, ↓i_rng1_, ↓i_rng2_, ↓u_2, ↓u_3, ↓u_4, ↓u_l2, ↓u_l3, ↓u_l4, ↓u_n2, ↓u_n3, ↓u_n4, ↓u_nl2, ↓u_nl3, ↓u_nl4, ↓b_nm, ↓b_tp, ↓bw_nm, ↓bw_tp, ↓wip_0, ↓wip_s, ↓clk_0, ↓clk_s, ↓c_cons, ↓c_end, ↓z_set, ↓ps_n, ↓ps_l, ↓ps_s, ↓z_unp, ↓us_n, ↓z_app, ↓as_n, ↓as_l, ↓zz_for, ↓ws_T, ↓ws_F, ↓ws_S, ↓ws_Z, ↓z_for1, ↓z_for2, ↓y_ret, ↓re_n, ↓re_f, ↓re_v, ↓re_c, ↓ob_0, ↓ob_s, ↓x_expr, ↓x_ret0, ↓z_if, ↓if_b, ↓x_brk, ↓x_cnt, ↓x_pass, ↓x_nil, ↓z_cons, ↓x_aug, ↓aug_0, ↓aug_s, ↓toI_k, ↓zs_nx, ↓zs_rt, ↓zs_bk, ↓zs_ct, ↓zf_nil, ↓zf_cons, ↓zk_nx, ↓zk_ct, ↓zk_bk, ↓zk_rt, ↓z_whl, ↓zw_nx, ↓zw_ct, ↓zw_bk, ↓zw_rt, ↓getK_0, ↓getK_s, ↓setK_0, ↓setK_s, ↓setsK_0, ↓setsK_s, ↓ownK_0, ↓ownK_s, ↓llow_0, ↓llow_n, ↓llow_s, ↓un_var, ↓un_con, ↓un_bin, ↓un_cmp, ↓un_idx, ↓un_slc, ↓un_ite, ↓un_call, ↓un_blt, ↓un_tup, ↓un_lst, ↓un_nil, ↓un_cons, ↓rt_n, ↓rt_f, ↓rt_t, ↓rt_nx, ↓ok_bi, ↓reduceIte, List.map_cons, List.map_nil, List.cons_append, List.nil_append, List.replicate, ↓o_pq, ↓o_p10, ↓o_p20, ↓o_p30, ↓o_p38, ↓o_p39, ↓o_p40, ↓o_p59, ↓o_p60, ↓o_p64, sl, List.length_cons, List.length_nil, decide_true, decide_false, Bool.false_eq_true, Bool.not_true, Bool.not_false, decide_eq_true_eq, Int.reduceEq, Int.reduceNe, Int.reduceLT, Int.reduceLE, Int.reduceNeg, Int.reduceAdd, Int.reduceSub, Int.reduceMul, Nat.reduceAdd, Nat.reduceLeDiff, Nat.reduceSub, Nat.reduceMul, Int.reduceToNat, Int.cast_ofNat_Int, List.set, ↓at_k, ↓ek, c, if_pos hsz]
        · exact List.nodup_append.mpr ⟨hd, by simp, fun a ha b hb => by rw [List.mem_singleton.mp hb]; exact fun z => c (z ▸ ha)⟩
        · rcases List.mem_append.mp hp with hp | hp
          · exact hb p hp
          · rw [List.mem_singleton.mp hp]; exact ⟨sx, sy⟩)
  refine ⟨.lst (acc.map ptU), ?_, acc, by omega, hd, hb, rfl⟩
  rw [e1]
  simp (maxSteps := 10000000) (disch := omega) only [↓r_var, ↓r_cI, ↓r_cB, ↓r_cN, ↓r_cS, ↓r_bin, ↓r_neg, ↓r_not, ↓r_cmp, ↓z_chn, ↓ch_b, ↓z_and, ↓an_b, ↓z_or, ↓or_b, ↓z_ite, ↓it_b, ↓r_tup, ↓r_lst, ↓r_idx, ↓r_slc, ↓r_call, ↓r_blt, ↓r_isi, ↓y_comp, ↓o_add, ↓o_sub, ↓o_neg, ↓o_mul, ↓o_modP, ↓o_fdivP, ↓o_lt, ↓o_le, ↓o_gt, ↓o_ge, ↓o_eq, ↓o_ne, ↓o_eqB, ↓o_neB, ↓o_isB, ↓o_isNotB, ↓o_isN, ↓o_isNotN, ↓o_ix0, ↓o_ix1, ↓o_ix2, ↓o_lx0, ↓o_lx1, ↓o_lx2, ↓o_lx3, ↓o_lenT, ↓o_lenL, ↓o_lenF, ↓o_listL, ↓o_listT, ↓o_listF, ↓o_tupL, ↓o_abs, ↓o_intI, ↓o_intB, ↓o_isiII, ↓o_isiBB, ↓o_isiTT, ↓o_isiLL, ↓o_ltP, ↓o_leP, ↓o_mnP2, ↓o_mxP2, ↓o_eqS, ↓o_k8, ↓o_k7, ↓o_eqP, ↓o_neP, ↓o_in2, ↓o_in3, ↓bu_f, ↓bu_t, ↓o_f1, ↓o_f2, ↓o_f3, ↓o_t1, ↓o_t2, ↓o_srtI, ↓o_srtP, ↓o_srtS, ↓o_srtT, ↓o_mn2, ↓o_mx2, ↓o_inP, ↓o_niP, ↓o_e00, ↓o_n00, ↓o_eq0, ↓o_ne0, ↓o_eqL, ↓o_neL, ↓r_nil, ↓r_cons, ↓r_tru, ↓i_val_, ↓i_T, ↓i_L, ↓i_F, ↓i_rng1_, ↓i_rng2_, ↓u_2, ↓u_3, ↓u_4, ↓u_l2, ↓u_l3, ↓u_l4, ↓u_n2, ↓u_n3, ↓u_n4, ↓u_nl2, ↓u_nl3, ↓u_nl4, ↓b_nm, ↓b_tp, ↓bw_nm, ↓bw_tp, ↓wip_0, ↓wip_s, ↓clk_0, ↓clk_s, ↓c_cons, ↓c_end, ↓z_set, ↓ps_n, ↓ps_l, ↓ps_s, ↓z_unp, ↓us_n, ↓z_app, ↓as_n, ↓as_l, ↓zz_for, ↓ws_T, ↓ws_F, ↓ws_S, ↓ws_Z, ↓z_for1, ↓z_for2, ↓y_ret, ↓re_n, ↓re_f, ↓re_v, ↓re_c, ↓ob_0, ↓ob_s, ↓x_expr, ↓x_ret0, ↓z_if, ↓if_b, ↓x_brk, ↓x_cnt, ↓x_pass, ↓x_nil, ↓z_cons, ↓x_aug, ↓aug_0, ↓aug_s, ↓toI_k, ↓zs_nx, ↓zs_rt, ↓zs_bk, ↓zs_ct, ↓zf_nil, ↓zf_cons, ↓zk_nx, ↓zk_ct, ↓zk_bk, ↓zk_rt, ↓z_whl, ↓zw_nx, ↓zw_ct, ↓zw_bk, ↓zw_rt, ↓getK_0, ↓getK_s, ↓setK_0, ↓setK_s, ↓setsK_0, ↓setsK_s, ↓ownK_0, ↓ownK_s, ↓llow_0, ↓llow_n, ↓llow_s, ↓un_var, ↓un_con, ↓un_bin, ↓un_cmp, ↓un_idx, ↓un_slc, ↓un_ite, ↓un_call, ↓un_blt, ↓un_tup, ↓un_lst, ↓un_nil, ↓un_cons, ↓rt_n, ↓rt_f, ↓rt_t, ↓rt_nx, ↓ok_bi, ↓reduceIte, List.map_cons, List.map_nil, List.cons_append, List.nil_append, List.replicate, ↓o_pq, ↓o_p10, ↓o_p20, ↓o_p30, ↓o_p38, ↓o_p39, ↓o_p40, ↓o_p59, ↓o_p60, ↓o_p64, sl, List.length_cons, List.length_nil, decide_true, decide_false, Bool.false_eq_true, Bool.not_true, Bool.not_false, decide_eq_true_eq, Int.reduceEq, Int.reduceNe, Int.reduceLT, Int.reduceLE, Int.reduceNeg, Int.reduceAdd, Int.reduceSub, Int.reduceMul, Nat.reduceAdd, Nat.reduceLeDiff, Nat.reduceSub, Nat.reduceMul, Int.reduceToNat, Int.cast_ofNat_Int]

def crV (px py qx qy ax ay bx by_ : Int) : Int := (qx - px) * (by_ - ay) - (qy - py) * (bx - ax)
theorem cross_ok {n : Nat} (hn : 1 ≤ n) {px py qx qy ax ay bx by_ : Int} [Sz 1000 px] [Sz 1000 py] [Sz 1000 qx] [Sz 1000 qy] [Sz 1000 ax] [Sz 1000 ay] [Sz 1000 bx] [Sz 1000 by_]  : callV T F n 8 [.tup [.int px, .int py], .tup [.int qx, .int qy], .tup [.int ax, .int ay], .tup [.int bx, .int by_]] = .ok (.int (crV px py qx qy ax ay bx by_)) := by
  rw [call_run false (by omega) (show T 8 = some f8 from rfl) rfl rfl]
  unfold crV
  simp (maxSteps := 10000000) (disch := omega) only [f8, ↓r_var, ↓r_cI, ↓r_cB, ↓r_cN, ↓r_cS, ↓r_bin, ↓r_neg, ↓r_not, ↓r_cmp, ↓z_chn, ↓ch_b, ↓z_and, ↓an_b, ↓z_or, ↓or_b, ↓z_ite, ↓it_b, ↓r_tup, ↓r_lst, ↓r_idx, ↓r_slc, ↓r_call, ↓r_blt, ↓r_isi, ↓y_comp, ↓o_add, ↓o_sub, ↓o_neg, ↓o_mul, ↓o_modP, ↓o_fdivP, ↓o_lt, ↓o_le, ↓o_gt, ↓o_ge, ↓o_eq, ↓o_ne, ↓o_eqB, ↓o_neB, ↓o_isB, ↓o_isNotB, ↓o_isN, ↓o_isNotN, ↓o_ix0, ↓o_ix1, ↓o_ix2, ↓o_lx0, ↓o_lx1, ↓o_lx2, ↓o_lx3, ↓o_lenT, ↓o_lenL, ↓o_lenF, ↓o_listL, ↓o_listT, ↓o_listF, ↓o_tupL, ↓o_abs, ↓o_intI, ↓o_intB, ↓o_isiII, ↓o_isiBB, ↓o_isiTT, ↓o_isiLL, ↓o_ltP, ↓o_leP, ↓o_mnP2, ↓o_mxP2, ↓o_eqS, ↓o_k8, ↓o_k7, ↓o_eqP, ↓o_neP, ↓o_in2, ↓o_in3, ↓bu_f, ↓bu_t, ↓o_f1, ↓o_f2, ↓o_f3, ↓o_t1, ↓o_t2, ↓o_srtI, ↓o_srtP, ↓o_srtS, ↓o_srtT, ↓o_mn2, ↓o_mx2, ↓o_inP, ↓o_niP, ↓o_e00, ↓o_n00, ↓o_eq0, ↓o_ne0, ↓o_eqL, ↓o_neL, ↓r_nil, ↓r_cons, ↓r_tru, ↓i_val_, ↓i_T, ↓i_L, ↓i_F, ↓i_rng1_, ↓i_rng2_, ↓u_2, ↓u_3, ↓u_4, ↓u_l2, ↓u_l3, ↓u_l4, ↓u_n2, ↓u_n3, ↓u_n4, ↓u_nl2, ↓u_nl3, ↓u_nl4, ↓b_nm, ↓b_tp, ↓bw_nm, ↓bw_tp, ↓wip_0, ↓wip_s, ↓clk_0, ↓clk_s, ↓c_cons, ↓c_end, ↓z_set, ↓ps_n, ↓ps_l, ↓ps_s, ↓z_unp, ↓us_n, ↓z_app, ↓as_n, ↓as_l, ↓zz_for, ↓ws_T, ↓ws_F, ↓ws_S, ↓ws_Z, ↓z_for1, ↓z_for2, ↓y_ret, ↓re_n, ↓re_f, ↓re_v, ↓re_c, ↓ob_0, ↓ob_s, ↓x_expr, ↓x_ret0, ↓z_if, ↓if_b, ↓x_brk, ↓x_cnt, ↓x_pass, ↓x_nil, ↓z_cons, ↓x_aug, ↓aug_0, ↓aug_s, ↓toI_k, ↓zs_nx, ↓zs_rt, ↓zs_bk, ↓zs_ct, ↓zf_nil, ↓zf_cons, ↓zk_nx, ↓zk_ct, ↓zk_bk, ↓zk_rt, ↓z_whl, ↓zw_nx, ↓zw_ct, ↓zw_bk, ↓zw_rt, ↓getK_0, ↓getK_s, ↓setK_0, ↓setK_s, ↓setsK_0, ↓setsK_s, ↓ownK_0, ↓ownK_s, ↓llow_0, ↓llow_n, ↓llow_s, ↓un_var, ↓un_con, ↓un_bin, ↓un_cmp, ↓un_idx, ↓un_slc, ↓un_ite, ↓un_call, ↓un_blt, ↓un_tup, ↓un_lst, ↓un_nil, ↓un_cons, ↓rt_n, ↓rt_f, ↓rt_t, ↓rt_nx, ↓ok_bi, ↓reduceIte, List.map_cons, List.map_nil, List.cons_append, List.nil_append, List.replicate, ↓o_pq, ↓o_p10, ↓o_p20, ↓o_p30, ↓o_p38, ↓o_p39, ↓o_p40, ↓o_p59, ↓o_p60, ↓o_p64, sl, List.length_cons, List.length_nil, decide_true, decide_false, Bool.false_eq_true, Bool.not_true, Bool.not_false, decide_eq_true_eq, Int.reduceEq, Int.reduceNe, Int.reduceLT, Int.reduceLE, Int.reduceNeg, Int.reduceAdd, Int.reduceSub, Int.reduceMul, Nat.reduceAdd, Nat.reduceLeDiff, Nat.reduceSub, Nat.reduceMul, Int.reduceToNat, Int.cast_ofNat_Int]
theorem cross_k {n : Nat} (hn : 1 ≤ n) {px py qx qy ax ay bx by_ : Int} [Sz 1000 px] [Sz 1000 py] [Sz 1000 qx] [Sz 1000 qy] [Sz 1000 ax] [Sz 1000 ay] [Sz 1000 bx] [Sz 1000 by_]  {β : Type} {q : U → VR β} : (callV T F n 8 [.tup [.int px, .int py], .tup [.int qx, .int qy], .tup [.int ax, .int ay], .tup [.int bx, .int by_]]).bind q = q (.int (crV px py qx qy ax ay bx by_)) := bi_of (cross_ok hn)

theorem cr_w (ax ay bx by_ cx cy dx dy : Int) : crV ax ay bx by_ cx cy dx dy = twV ax ay bx by_ dx dy - twV ax ay bx by_ cx cy := by unfold crV twV; grind
theorem cr_0 (ax ay bx by_ cx cy : Int) : crV ax ay bx by_ ax ay cx cy = twV ax ay bx by_ cx cy := by unfold crV twV; grind
theorem cr_h (ax ay cx cy dx dy : Int) : crV ax ay cx cy cx cy dx dy = twV cx cy dx dy ax ay := by unfold crV twV; grind
theorem cr_t (ax ay bx by_ cx cy : Int) : crV ax ay cx cy ax ay bx by_ = -twV ax ay bx by_ cx cy := by unfold crV twV; grind
theorem o_inI2 {x a b : Int} {β : Type} {k : U → VR β} : (cmpU .notIn (.int x) (.tup [.int a, .int b])).bind k = k (.bl (!decide (x = a ∨ x = b))) :=
  o_niG ((in_tp (f := U.int) (by omega) x [a, b]).trans (by congr 1; exact decide_eq_decide.mpr (by simp)))
theorem dec_to {p q : Prop} [Decidable p] [Decidable q] (h : p ↔ q) {x : VR U} (k : x = .ok (.bl (decide q))) : x = .ok (.bl (decide p)) := by
  rw [k]
  congr 2
  exact decide_eq_decide.mpr h.symm
theorem lmeet_ok {n : Nat} (hn : 2 ≤ n) {ax ay bx by_ cx cy dx dy : Int} [Sz 1000 ax] [Sz 1000 ay] [Sz 1000 bx] [Sz 1000 by_] [Sz 1000 cx] [Sz 1000 cy] [Sz 1000 dx] [Sz 1000 dy] (hab : lxP ax ay bx by_) (hcd : lxP cx cy dx dy) : callV T F n 9 [.tup [.tup [.int ax, .int ay], .tup [.int bx, .int by_]], .tup [.tup [.int cx, .int cy], .tup [.int dx, .int dy]]] = .ok (.bl (decide (meetP (ax, ay) (bx, by_) (cx, cy) (dx, dy)))) := by
  rw [call_run false (by omega) (show T 9 = some f9 from rfl) rfl rfl]
  have hm := meet_far (a := (ax, ay)) (b := (bx, by_)) (c := (cx, cy)) (d := (dx, dy)) hab hcd
  have kW : ∀ {β : Type} {q : U → VR β}, (callV T F (n - 1) 8 [.tup [.int ax, .int ay], .tup [.int bx, .int by_], .tup [.int cx, .int cy], .tup [.int dx, .int dy]]).bind q = q (.int (twV ax ay bx by_ dx dy - twV ax ay bx by_ cx cy)) := fun {β q} => by rw [cross_k (by omega), cr_w]
  have k0 : ∀ {β : Type} {q : U → VR β}, (callV T F (n - 1) 8 [.tup [.int ax, .int ay], .tup [.int bx, .int by_], .tup [.int ax, .int ay], .tup [.int cx, .int cy]]).bind q = q (.int (twV ax ay bx by_ cx cy)) := fun {β q} => by rw [cross_k (by omega), cr_0]
  have kH : ∀ {β : Type} {q : U → VR β}, (callV T F (n - 1) 8 [.tup [.int ax, .int ay], .tup [.int cx, .int cy], .tup [.int cx, .int cy], .tup [.int dx, .int dy]]).bind q = q (.int (twV cx cy dx dy ax ay)) := fun {β q} => by rw [cross_k (by omega), cr_h]
  have kT : ∀ {β : Type} {q : U → VR β}, (callV T F (n - 1) 8 [.tup [.int ax, .int ay], .tup [.int cx, .int cy], .tup [.int ax, .int ay], .tup [.int bx, .int by_]]).bind q = q (.int (-twV ax ay bx by_ cx cy)) := fun {β q} => by rw [cross_k (by omega), cr_t]
  have tail : ∀ W H Tt : Int, ∀ (o5 o6 o7 o8 : Option (Bool × U)) (u0 u1 : Option (Bool × U)), (exVB F (callV T F (n - 1)) (.cons (.ifs (.or (.cmp .lt (.var 3) (.con (.int 0))) (.or (.cmp .gt (.var 3) (.var 2)) (.or (.cmp .lt (.var 4) (.con (.int 0))) (.cmp .gt (.var 4) (.var 2))))) (.cons (.ret (.con (.bl false))) .nil) .nil) (.cons (.ret (.or (.cmp .notIn (.var 3) (.tup (.cons (.con (.int 0)) (.cons (.var 2) .nil)))) (.cmp .notIn (.var 4) (.tup (.cons (.con (.int 0)) (.cons (.var 2) .nil)))))) .nil)) [u0, u1, some (false, .int W), some (false, .int H), some (false, .int Tt), o5, o6, o7, o8]).bind (retK false) = .ok (.bl (decide (farP W H Tt))) := by
    intro W H Tt o5 o6 o7 o8 u0 u1
    by_cases h1 : H < 0
    · rw [show decide (farP W H Tt) = false from decide_eq_false (by unfold farP; omega)]; simp (maxSteps := 10000000) (disch := omega) only [↓r_var, ↓r_cI, ↓r_cB, ↓r_cN, ↓r_cS, ↓r_bin, ↓r_neg, ↓r_not, ↓r_cmp, ↓z_chn, ↓ch_b, ↓z_and, ↓an_b, ↓z_or, ↓or_b, ↓z_ite, ↓it_b, ↓r_tup, ↓r_lst, ↓r_idx, ↓r_slc, ↓r_call, ↓r_blt, ↓r_isi, ↓y_comp, ↓o_add, ↓o_sub, ↓o_neg, ↓o_mul, ↓o_modP, ↓o_fdivP, ↓o_lt, ↓o_le, ↓o_gt, ↓o_ge, ↓o_eq, ↓o_ne, ↓o_eqB, ↓o_neB, ↓o_isB, ↓o_isNotB, ↓o_isN, ↓o_isNotN, ↓o_ix0, ↓o_ix1, ↓o_ix2, ↓o_lx0, ↓o_lx1, ↓o_lx2, ↓o_lx3, ↓o_lenT, ↓o_lenL, ↓o_lenF, ↓o_listL, ↓o_listT, ↓o_listF, ↓o_tupL, ↓o_abs, ↓o_intI, ↓o_intB, ↓o_isiII, ↓o_isiBB, ↓o_isiTT, ↓o_isiLL, ↓o_ltP, ↓o_leP, ↓o_mnP2, ↓o_mxP2, ↓o_eqS, ↓o_k8, ↓o_k7, ↓o_eqP, ↓o_neP, ↓o_in2, ↓o_in3, ↓bu_f, ↓bu_t, ↓o_f1, ↓o_f2, ↓o_f3, ↓o_t1, ↓o_t2, ↓o_srtI, ↓o_srtP, ↓o_srtS, ↓o_srtT, ↓o_mn2, ↓o_mx2, ↓o_inP, ↓o_niP, ↓o_e00, ↓o_n00, ↓o_eq0, ↓o_ne0, ↓o_eqL, ↓o_neL, ↓r_nil, ↓r_cons, ↓r_tru, ↓i_val_, ↓i_T, ↓i_L, ↓i_F, ↓i_rng1_, ↓i_rng2_, ↓u_2, ↓u_3, ↓u_4, ↓u_l2, ↓u_l3, ↓u_l4, ↓u_n2, ↓u_n3, ↓u_n4, ↓u_nl2, ↓u_nl3, ↓u_nl4, ↓b_nm, ↓b_tp, ↓bw_nm, ↓bw_tp, ↓wip_0, ↓wip_s, ↓clk_0, ↓clk_s, ↓c_cons, ↓c_end, ↓z_set, ↓ps_n, ↓ps_l, ↓ps_s, ↓z_unp, ↓us_n, ↓z_app, ↓as_n, ↓as_l, ↓zz_for, ↓ws_T, ↓ws_F, ↓ws_S, ↓ws_Z, ↓z_for1, ↓z_for2, ↓y_ret, ↓re_n, ↓re_f, ↓re_v, ↓re_c, ↓ob_0, ↓ob_s, ↓x_expr, ↓x_ret0, ↓z_if, ↓if_b, ↓x_brk, ↓x_cnt, ↓x_pass, ↓x_nil, ↓z_cons, ↓x_aug, ↓aug_0, ↓aug_s, ↓toI_k, ↓zs_nx, ↓zs_rt, ↓zs_bk, ↓zs_ct, ↓zf_nil, ↓zf_cons, ↓zk_nx, ↓zk_ct, ↓zk_bk, ↓zk_rt, ↓z_whl, ↓zw_nx, ↓zw_ct, ↓zw_bk, ↓zw_rt, ↓getK_0, ↓getK_s, ↓setK_0, ↓setK_s, ↓setsK_0, ↓setsK_s, ↓ownK_0, ↓ownK_s, ↓llow_0, ↓llow_n, ↓llow_s, ↓un_var, ↓un_con, ↓un_bin, ↓un_cmp, ↓un_idx, ↓un_slc, ↓un_ite, ↓un_call, ↓un_blt, ↓un_tup, ↓un_lst, ↓un_nil, ↓un_cons, ↓rt_n, ↓rt_f, ↓rt_t, ↓rt_nx, ↓ok_bi, ↓reduceIte, List.map_cons, List.map_nil, List.cons_append, List.nil_append, List.replicate, ↓o_pq, ↓o_p10, ↓o_p20, ↓o_p30, ↓o_p38, ↓o_p39, ↓o_p40, ↓o_p59, ↓o_p60, ↓o_p64, sl, List.length_cons, List.length_nil, decide_true, decide_false, Bool.false_eq_true, Bool.not_true, Bool.not_false, decide_eq_true_eq, Int.reduceEq, Int.reduceNe, Int.reduceLT, Int.reduceLE, Int.reduceNeg, Int.reduceAdd, Int.reduceSub, Int.reduceMul, Nat.reduceAdd, Nat.reduceLeDiff, Nat.reduceSub, Nat.reduceMul, Int.reduceToNat, Int.cast_ofNat_Int, h1]
    by_cases h2 : W < H
    · rw [show decide (farP W H Tt) = false from decide_eq_false (by unfold farP; omega)]; simp (maxSteps := 10000000) (disch := omega) only [↓r_var, ↓r_cI, ↓r_cB, ↓r_cN, ↓r_cS, ↓r_bin, ↓r_neg, ↓r_not, ↓r_cmp, ↓z_chn, ↓ch_b, ↓z_and, ↓an_b, ↓z_or, ↓or_b, ↓z_ite, ↓it_b, ↓r_tup, ↓r_lst, ↓r_idx, ↓r_slc, ↓r_call, ↓r_blt, ↓r_isi, ↓y_comp, ↓o_add, ↓o_sub, ↓o_neg, ↓o_mul, ↓o_modP, ↓o_fdivP, ↓o_lt, ↓o_le, ↓o_gt, ↓o_ge, ↓o_eq, ↓o_ne, ↓o_eqB, ↓o_neB, ↓o_isB, ↓o_isNotB, ↓o_isN, ↓o_isNotN, ↓o_ix0, ↓o_ix1, ↓o_ix2, ↓o_lx0, ↓o_lx1, ↓o_lx2, ↓o_lx3, ↓o_lenT, ↓o_lenL, ↓o_lenF, ↓o_listL, ↓o_listT, ↓o_listF, ↓o_tupL, ↓o_abs, ↓o_intI, ↓o_intB, ↓o_isiII, ↓o_isiBB, ↓o_isiTT, ↓o_isiLL, ↓o_ltP, ↓o_leP, ↓o_mnP2, ↓o_mxP2, ↓o_eqS, ↓o_k8, ↓o_k7, ↓o_eqP, ↓o_neP, ↓o_in2, ↓o_in3, ↓bu_f, ↓bu_t, ↓o_f1, ↓o_f2, ↓o_f3, ↓o_t1, ↓o_t2, ↓o_srtI, ↓o_srtP, ↓o_srtS, ↓o_srtT, ↓o_mn2, ↓o_mx2, ↓o_inP, ↓o_niP, ↓o_e00, ↓o_n00, ↓o_eq0, ↓o_ne0, ↓o_eqL, ↓o_neL, ↓r_nil, ↓r_cons, ↓r_tru, ↓i_val_, ↓i_T, ↓i_L, ↓i_F, ↓i_rng1_, ↓i_rng2_, ↓u_2, ↓u_3, ↓u_4, ↓u_l2, ↓u_l3, ↓u_l4, ↓u_n2, ↓u_n3, ↓u_n4, ↓u_nl2, ↓u_nl3, ↓u_nl4, ↓b_nm, ↓b_tp, ↓bw_nm, ↓bw_tp, ↓wip_0, ↓wip_s, ↓clk_0, ↓clk_s, ↓c_cons, ↓c_end, ↓z_set, ↓ps_n, ↓ps_l, ↓ps_s, ↓z_unp, ↓us_n, ↓z_app, ↓as_n, ↓as_l, ↓zz_for, ↓ws_T, ↓ws_F, ↓ws_S, ↓ws_Z, ↓z_for1, ↓z_for2, ↓y_ret, ↓re_n, ↓re_f, ↓re_v, ↓re_c, ↓ob_0, ↓ob_s, ↓x_expr, ↓x_ret0, ↓z_if, ↓if_b, ↓x_brk, ↓x_cnt, ↓x_pass, ↓x_nil, ↓z_cons, ↓x_aug, ↓aug_0, ↓aug_s, ↓toI_k, ↓zs_nx, ↓zs_rt, ↓zs_bk, ↓zs_ct, ↓zf_nil, ↓zf_cons, ↓zk_nx, ↓zk_ct, ↓zk_bk, ↓zk_rt, ↓z_whl, ↓zw_nx, ↓zw_ct, ↓zw_bk, ↓zw_rt, ↓getK_0, ↓getK_s, ↓setK_0, ↓setK_s, ↓setsK_0, ↓setsK_s, ↓ownK_0, ↓ownK_s, ↓llow_0, ↓llow_n, ↓llow_s, ↓un_var, ↓un_con, ↓un_bin, ↓un_cmp, ↓un_idx, ↓un_slc, ↓un_ite, ↓un_call, ↓un_blt, ↓un_tup, ↓un_lst, ↓un_nil, ↓un_cons, ↓rt_n, ↓rt_f, ↓rt_t, ↓rt_nx, ↓ok_bi, ↓reduceIte, List.map_cons, List.map_nil, List.cons_append, List.nil_append, List.replicate, ↓o_pq, ↓o_p10, ↓o_p20, ↓o_p30, ↓o_p38, ↓o_p39, ↓o_p40, ↓o_p59, ↓o_p60, ↓o_p64, sl, List.length_cons, List.length_nil, decide_true, decide_false, Bool.false_eq_true, Bool.not_true, Bool.not_false, decide_eq_true_eq, Int.reduceEq, Int.reduceNe, Int.reduceLT, Int.reduceLE, Int.reduceNeg, Int.reduceAdd, Int.reduceSub, Int.reduceMul, Nat.reduceAdd, Nat.reduceLeDiff, Nat.reduceSub, Nat.reduceMul, Int.reduceToNat, Int.cast_ofNat_Int, h1, h2]
    by_cases h3 : Tt < 0
    · rw [show decide (farP W H Tt) = false from decide_eq_false (by unfold farP; omega)]; simp (maxSteps := 10000000) (disch := omega) only [↓r_var, ↓r_cI, ↓r_cB, ↓r_cN, ↓r_cS, ↓r_bin, ↓r_neg, ↓r_not, ↓r_cmp, ↓z_chn, ↓ch_b, ↓z_and, ↓an_b, ↓z_or, ↓or_b, ↓z_ite, ↓it_b, ↓r_tup, ↓r_lst, ↓r_idx, ↓r_slc, ↓r_call, ↓r_blt, ↓r_isi, ↓y_comp, ↓o_add, ↓o_sub, ↓o_neg, ↓o_mul, ↓o_modP, ↓o_fdivP, ↓o_lt, ↓o_le, ↓o_gt, ↓o_ge, ↓o_eq, ↓o_ne, ↓o_eqB, ↓o_neB, ↓o_isB, ↓o_isNotB, ↓o_isN, ↓o_isNotN, ↓o_ix0, ↓o_ix1, ↓o_ix2, ↓o_lx0, ↓o_lx1, ↓o_lx2, ↓o_lx3, ↓o_lenT, ↓o_lenL, ↓o_lenF, ↓o_listL, ↓o_listT, ↓o_listF, ↓o_tupL, ↓o_abs, ↓o_intI, ↓o_intB, ↓o_isiII, ↓o_isiBB, ↓o_isiTT, ↓o_isiLL, ↓o_ltP, ↓o_leP, ↓o_mnP2, ↓o_mxP2, ↓o_eqS, ↓o_k8, ↓o_k7, ↓o_eqP, ↓o_neP, ↓o_in2, ↓o_in3, ↓bu_f, ↓bu_t, ↓o_f1, ↓o_f2, ↓o_f3, ↓o_t1, ↓o_t2, ↓o_srtI, ↓o_srtP, ↓o_srtS, ↓o_srtT, ↓o_mn2, ↓o_mx2, ↓o_inP, ↓o_niP, ↓o_e00, ↓o_n00, ↓o_eq0, ↓o_ne0, ↓o_eqL, ↓o_neL, ↓r_nil, ↓r_cons, ↓r_tru, ↓i_val_, ↓i_T, ↓i_L, ↓i_F, ↓i_rng1_, ↓i_rng2_, ↓u_2, ↓u_3, ↓u_4, ↓u_l2, ↓u_l3, ↓u_l4, ↓u_n2, ↓u_n3, ↓u_n4, ↓u_nl2, ↓u_nl3, ↓u_nl4, ↓b_nm, ↓b_tp, ↓bw_nm, ↓bw_tp, ↓wip_0, ↓wip_s, ↓clk_0, ↓clk_s, ↓c_cons, ↓c_end, ↓z_set, ↓ps_n, ↓ps_l, ↓ps_s, ↓z_unp, ↓us_n, ↓z_app, ↓as_n, ↓as_l, ↓zz_for, ↓ws_T, ↓ws_F, ↓ws_S, ↓ws_Z, ↓z_for1, ↓z_for2, ↓y_ret, ↓re_n, ↓re_f, ↓re_v, ↓re_c, ↓ob_0, ↓ob_s, ↓x_expr, ↓x_ret0, ↓z_if, ↓if_b, ↓x_brk, ↓x_cnt, ↓x_pass, ↓x_nil, ↓z_cons, ↓x_aug, ↓aug_0, ↓aug_s, ↓toI_k, ↓zs_nx, ↓zs_rt, ↓zs_bk, ↓zs_ct, ↓zf_nil, ↓zf_cons, ↓zk_nx, ↓zk_ct, ↓zk_bk, ↓zk_rt, ↓z_whl, ↓zw_nx, ↓zw_ct, ↓zw_bk, ↓zw_rt, ↓getK_0, ↓getK_s, ↓setK_0, ↓setK_s, ↓setsK_0, ↓setsK_s, ↓ownK_0, ↓ownK_s, ↓llow_0, ↓llow_n, ↓llow_s, ↓un_var, ↓un_con, ↓un_bin, ↓un_cmp, ↓un_idx, ↓un_slc, ↓un_ite, ↓un_call, ↓un_blt, ↓un_tup, ↓un_lst, ↓un_nil, ↓un_cons, ↓rt_n, ↓rt_f, ↓rt_t, ↓rt_nx, ↓ok_bi, ↓reduceIte, List.map_cons, List.map_nil, List.cons_append, List.nil_append, List.replicate, ↓o_pq, ↓o_p10, ↓o_p20, ↓o_p30, ↓o_p38, ↓o_p39, ↓o_p40, ↓o_p59, ↓o_p60, ↓o_p64, sl, List.length_cons, List.length_nil, decide_true, decide_false, Bool.false_eq_true, Bool.not_true, Bool.not_false, decide_eq_true_eq, Int.reduceEq, Int.reduceNe, Int.reduceLT, Int.reduceLE, Int.reduceNeg, Int.reduceAdd, Int.reduceSub, Int.reduceMul, Nat.reduceAdd, Nat.reduceLeDiff, Nat.reduceSub, Nat.reduceMul, Int.reduceToNat, Int.cast_ofNat_Int, h1, h2, h3]
    by_cases h4 : W < Tt
    · rw [show decide (farP W H Tt) = false from decide_eq_false (by unfold farP; omega)]; simp (maxSteps := 10000000) (disch := omega) only [↓r_var, ↓r_cI, ↓r_cB, ↓r_cN, ↓r_cS, ↓r_bin, ↓r_neg, ↓r_not, ↓r_cmp, ↓z_chn, ↓ch_b, ↓z_and, ↓an_b, ↓z_or, ↓or_b, ↓z_ite, ↓it_b, ↓r_tup, ↓r_lst, ↓r_idx, ↓r_slc, ↓r_call, ↓r_blt, ↓r_isi, ↓y_comp, ↓o_add, ↓o_sub, ↓o_neg, ↓o_mul, ↓o_modP, ↓o_fdivP, ↓o_lt, ↓o_le, ↓o_gt, ↓o_ge, ↓o_eq, ↓o_ne, ↓o_eqB, ↓o_neB, ↓o_isB, ↓o_isNotB, ↓o_isN, ↓o_isNotN, ↓o_ix0, ↓o_ix1, ↓o_ix2, ↓o_lx0, ↓o_lx1, ↓o_lx2, ↓o_lx3, ↓o_lenT, ↓o_lenL, ↓o_lenF, ↓o_listL, ↓o_listT, ↓o_listF, ↓o_tupL, ↓o_abs, ↓o_intI, ↓o_intB, ↓o_isiII, ↓o_isiBB, ↓o_isiTT, ↓o_isiLL, ↓o_ltP, ↓o_leP, ↓o_mnP2, ↓o_mxP2, ↓o_eqS, ↓o_k8, ↓o_k7, ↓o_eqP, ↓o_neP, ↓o_in2, ↓o_in3, ↓bu_f, ↓bu_t, ↓o_f1, ↓o_f2, ↓o_f3, ↓o_t1, ↓o_t2, ↓o_srtI, ↓o_srtP, ↓o_srtS, ↓o_srtT, ↓o_mn2, ↓o_mx2, ↓o_inP, ↓o_niP, ↓o_e00, ↓o_n00, ↓o_eq0, ↓o_ne0, ↓o_eqL, ↓o_neL, ↓r_nil, ↓r_cons, ↓r_tru, ↓i_val_, ↓i_T, ↓i_L, ↓i_F, ↓i_rng1_, ↓i_rng2_, ↓u_2, ↓u_3, ↓u_4, ↓u_l2, ↓u_l3, ↓u_l4, ↓u_n2, ↓u_n3, ↓u_n4, ↓u_nl2, ↓u_nl3, ↓u_nl4, ↓b_nm, ↓b_tp, ↓bw_nm, ↓bw_tp, ↓wip_0, ↓wip_s, ↓clk_0, ↓clk_s, ↓c_cons, ↓c_end, ↓z_set, ↓ps_n, ↓ps_l, ↓ps_s, ↓z_unp, ↓us_n, ↓z_app, ↓as_n, ↓as_l, ↓zz_for, ↓ws_T, ↓ws_F, ↓ws_S, ↓ws_Z, ↓z_for1, ↓z_for2, ↓y_ret, ↓re_n, ↓re_f, ↓re_v, ↓re_c, ↓ob_0, ↓ob_s, ↓x_expr, ↓x_ret0, ↓z_if, ↓if_b, ↓x_brk, ↓x_cnt, ↓x_pass, ↓x_nil, ↓z_cons, ↓x_aug, ↓aug_0, ↓aug_s, ↓toI_k, ↓zs_nx, ↓zs_rt, ↓zs_bk, ↓zs_ct, ↓zf_nil, ↓zf_cons, ↓zk_nx, ↓zk_ct, ↓zk_bk, ↓zk_rt, ↓z_whl, ↓zw_nx, ↓zw_ct, ↓zw_bk, ↓zw_rt, ↓getK_0, ↓getK_s, ↓setK_0, ↓setK_s, ↓setsK_0, ↓setsK_s, ↓ownK_0, ↓ownK_s, ↓llow_0, ↓llow_n, ↓llow_s, ↓un_var, ↓un_con, ↓un_bin, ↓un_cmp, ↓un_idx, ↓un_slc, ↓un_ite, ↓un_call, ↓un_blt, ↓un_tup, ↓un_lst, ↓un_nil, ↓un_cons, ↓rt_n, ↓rt_f, ↓rt_t, ↓rt_nx, ↓ok_bi, ↓reduceIte, List.map_cons, List.map_nil, List.cons_append, List.nil_append, List.replicate, ↓o_pq, ↓o_p10, ↓o_p20, ↓o_p30, ↓o_p38, ↓o_p39, ↓o_p40, ↓o_p59, ↓o_p60, ↓o_p64, sl, List.length_cons, List.length_nil, decide_true, decide_false, Bool.false_eq_true, Bool.not_true, Bool.not_false, decide_eq_true_eq, Int.reduceEq, Int.reduceNe, Int.reduceLT, Int.reduceLE, Int.reduceNeg, Int.reduceAdd, Int.reduceSub, Int.reduceMul, Nat.reduceAdd, Nat.reduceLeDiff, Nat.reduceSub, Nat.reduceMul, Int.reduceToNat, Int.cast_ofNat_Int, h1, h2, h3, h4]
    by_cases h5 : H = 0 ∨ H = W
    · by_cases h6 : Tt = 0 ∨ Tt = W
      · rw [show decide (farP W H Tt) = false from decide_eq_false (by unfold farP; omega)]; simp (maxSteps := 10000000) (disch := omega) only [↓r_var, ↓r_cI, ↓r_cB, ↓r_cN, ↓r_cS, ↓r_bin, ↓r_neg, ↓r_not, ↓r_cmp, ↓z_chn, ↓ch_b, ↓z_and, ↓an_b, ↓z_or, ↓or_b, ↓z_ite, ↓it_b, ↓r_tup, ↓r_lst, ↓r_idx, ↓r_slc, ↓r_call, ↓r_blt, ↓r_isi, ↓y_comp, ↓o_add, ↓o_sub, ↓o_neg, ↓o_mul, ↓o_modP, ↓o_fdivP, ↓o_lt, ↓o_le, ↓o_gt, ↓o_ge, ↓o_eq, ↓o_ne, ↓o_eqB, ↓o_neB, ↓o_isB, ↓o_isNotB, ↓o_isN, ↓o_isNotN, ↓o_ix0, ↓o_ix1, ↓o_ix2, ↓o_lx0, ↓o_lx1, ↓o_lx2, ↓o_lx3, ↓o_lenT, ↓o_lenL, ↓o_lenF, ↓o_listL, ↓o_listT, ↓o_listF, ↓o_tupL, ↓o_abs, ↓o_intI, ↓o_intB, ↓o_isiII, ↓o_isiBB, ↓o_isiTT, ↓o_isiLL, ↓o_ltP, ↓o_leP, ↓o_mnP2, ↓o_mxP2, ↓o_eqS, ↓o_k8, ↓o_k7, ↓o_eqP, ↓o_neP, ↓o_in2, ↓o_in3, ↓bu_f, ↓bu_t, ↓o_f1, ↓o_f2, ↓o_f3, ↓o_t1, ↓o_t2, ↓o_srtI, ↓o_srtP, ↓o_srtS, ↓o_srtT, ↓o_mn2, ↓o_mx2, ↓o_inP, ↓o_niP, ↓o_e00, ↓o_n00, ↓o_eq0, ↓o_ne0, ↓o_eqL, ↓o_neL, ↓r_nil, ↓r_cons, ↓r_tru, ↓i_val_, ↓i_T, ↓i_L, ↓i_F, ↓i_rng1_, ↓i_rng2_, ↓u_2, ↓u_3, ↓u_4, ↓u_l2, ↓u_l3, ↓u_l4, ↓u_n2, ↓u_n3, ↓u_n4, ↓u_nl2, ↓u_nl3, ↓u_nl4, ↓b_nm, ↓b_tp, ↓bw_nm, ↓bw_tp, ↓wip_0, ↓wip_s, ↓clk_0, ↓clk_s, ↓c_cons, ↓c_end, ↓z_set, ↓ps_n, ↓ps_l, ↓ps_s, ↓z_unp, ↓us_n, ↓z_app, ↓as_n, ↓as_l, ↓zz_for, ↓ws_T, ↓ws_F, ↓ws_S, ↓ws_Z, ↓z_for1, ↓z_for2, ↓y_ret, ↓re_n, ↓re_f, ↓re_v, ↓re_c, ↓ob_0, ↓ob_s, ↓x_expr, ↓x_ret0, ↓z_if, ↓if_b, ↓x_brk, ↓x_cnt, ↓x_pass, ↓x_nil, ↓z_cons, ↓x_aug, ↓aug_0, ↓aug_s, ↓toI_k, ↓zs_nx, ↓zs_rt, ↓zs_bk, ↓zs_ct, ↓zf_nil, ↓zf_cons, ↓zk_nx, ↓zk_ct, ↓zk_bk, ↓zk_rt, ↓z_whl, ↓zw_nx, ↓zw_ct, ↓zw_bk, ↓zw_rt, ↓getK_0, ↓getK_s, ↓setK_0, ↓setK_s, ↓setsK_0, ↓setsK_s, ↓ownK_0, ↓ownK_s, ↓llow_0, ↓llow_n, ↓llow_s, ↓un_var, ↓un_con, ↓un_bin, ↓un_cmp, ↓un_idx, ↓un_slc, ↓un_ite, ↓un_call, ↓un_blt, ↓un_tup, ↓un_lst, ↓un_nil, ↓un_cons, ↓rt_n, ↓rt_f, ↓rt_t, ↓rt_nx, ↓ok_bi, ↓reduceIte, List.map_cons, List.map_nil, List.cons_append, List.nil_append, List.replicate, ↓o_pq, ↓o_p10, ↓o_p20, ↓o_p30, ↓o_p38, ↓o_p39, ↓o_p40, ↓o_p59, ↓o_p60, ↓o_p64, sl, List.length_cons, List.length_nil, decide_true, decide_false, Bool.false_eq_true, Bool.not_true, Bool.not_false, decide_eq_true_eq, Int.reduceEq, Int.reduceNe, Int.reduceLT, Int.reduceLE, Int.reduceNeg, Int.reduceAdd, Int.reduceSub, Int.reduceMul, Nat.reduceAdd, Nat.reduceLeDiff, Nat.reduceSub, Nat.reduceMul, Int.reduceToNat, Int.cast_ofNat_Int, ↓o_inI2, h1, h2, h3, h4, h5, h6]
      · rw [show decide (farP W H Tt) = true from decide_eq_true (by unfold farP; omega)]; simp (maxSteps := 10000000) (disch := omega) only [↓r_var, ↓r_cI, ↓r_cB, ↓r_cN, ↓r_cS, ↓r_bin, ↓r_neg, ↓r_not, ↓r_cmp, ↓z_chn, ↓ch_b, ↓z_and, ↓an_b, ↓z_or, ↓or_b, ↓z_ite, ↓it_b, ↓r_tup, ↓r_lst, ↓r_idx, ↓r_slc, ↓r_call, ↓r_blt, ↓r_isi, ↓y_comp, ↓o_add, ↓o_sub, ↓o_neg, ↓o_mul, ↓o_modP, ↓o_fdivP, ↓o_lt, ↓o_le, ↓o_gt, ↓o_ge, ↓o_eq, ↓o_ne, ↓o_eqB, ↓o_neB, ↓o_isB, ↓o_isNotB, ↓o_isN, ↓o_isNotN, ↓o_ix0, ↓o_ix1, ↓o_ix2, ↓o_lx0, ↓o_lx1, ↓o_lx2, ↓o_lx3, ↓o_lenT, ↓o_lenL, ↓o_lenF, ↓o_listL, ↓o_listT, ↓o_listF, ↓o_tupL, ↓o_abs, ↓o_intI, ↓o_intB, ↓o_isiII, ↓o_isiBB, ↓o_isiTT, ↓o_isiLL, ↓o_ltP, ↓o_leP, ↓o_mnP2, ↓o_mxP2, ↓o_eqS, ↓o_k8, ↓o_k7, ↓o_eqP, ↓o_neP, ↓o_in2, ↓o_in3, ↓bu_f, ↓bu_t, ↓o_f1, ↓o_f2, ↓o_f3, ↓o_t1, ↓o_t2, ↓o_srtI, ↓o_srtP, ↓o_srtS, ↓o_srtT, ↓o_mn2, ↓o_mx2, ↓o_inP, ↓o_niP, ↓o_e00, ↓o_n00, ↓o_eq0, ↓o_ne0, ↓o_eqL, ↓o_neL, ↓r_nil, ↓r_cons, ↓r_tru, ↓i_val_, ↓i_T, ↓i_L, ↓i_F, ↓i_rng1_, ↓i_rng2_, ↓u_2, ↓u_3, ↓u_4, ↓u_l2, ↓u_l3, ↓u_l4, ↓u_n2, ↓u_n3, ↓u_n4, ↓u_nl2, ↓u_nl3, ↓u_nl4, ↓b_nm, ↓b_tp, ↓bw_nm, ↓bw_tp, ↓wip_0, ↓wip_s, ↓clk_0, ↓clk_s, ↓c_cons, ↓c_end, ↓z_set, ↓ps_n, ↓ps_l, ↓ps_s, ↓z_unp, ↓us_n, ↓z_app, ↓as_n, ↓as_l, ↓zz_for, ↓ws_T, ↓ws_F, ↓ws_S, ↓ws_Z, ↓z_for1, ↓z_for2, ↓y_ret, ↓re_n, ↓re_f, ↓re_v, ↓re_c, ↓ob_0, ↓ob_s, ↓x_expr, ↓x_ret0, ↓z_if, ↓if_b, ↓x_brk, ↓x_cnt, ↓x_pass, ↓x_nil, ↓z_cons, ↓x_aug, ↓aug_0, ↓aug_s, ↓toI_k, ↓zs_nx, ↓zs_rt, ↓zs_bk, ↓zs_ct, ↓zf_nil, ↓zf_cons, ↓zk_nx, ↓zk_ct, ↓zk_bk, ↓zk_rt, ↓z_whl, ↓zw_nx, ↓zw_ct, ↓zw_bk, ↓zw_rt, ↓getK_0, ↓getK_s, ↓setK_0, ↓setK_s, ↓setsK_0, ↓setsK_s, ↓ownK_0, ↓ownK_s, ↓llow_0, ↓llow_n, ↓llow_s, ↓un_var, ↓un_con, ↓un_bin, ↓un_cmp, ↓un_idx, ↓un_slc, ↓un_ite, ↓un_call, ↓un_blt, ↓un_tup, ↓un_lst, ↓un_nil, ↓un_cons, ↓rt_n, ↓rt_f, ↓rt_t, ↓rt_nx, ↓ok_bi, ↓reduceIte, List.map_cons, List.map_nil, List.cons_append, List.nil_append, List.replicate, ↓o_pq, ↓o_p10, ↓o_p20, ↓o_p30, ↓o_p38, ↓o_p39, ↓o_p40, ↓o_p59, ↓o_p60, ↓o_p64, sl, List.length_cons, List.length_nil, decide_true, decide_false, Bool.false_eq_true, Bool.not_true, Bool.not_false, decide_eq_true_eq, Int.reduceEq, Int.reduceNe, Int.reduceLT, Int.reduceLE, Int.reduceNeg, Int.reduceAdd, Int.reduceSub, Int.reduceMul, Nat.reduceAdd, Nat.reduceLeDiff, Nat.reduceSub, Nat.reduceMul, Int.reduceToNat, Int.cast_ofNat_Int, ↓o_inI2, h1, h2, h3, h4, h5, h6]
    · rw [show decide (farP W H Tt) = true from decide_eq_true (by unfold farP; omega)]; simp (maxSteps := 10000000) (disch := omega) only [↓r_var, ↓r_cI, ↓r_cB, ↓r_cN, ↓r_cS, ↓r_bin, ↓r_neg, ↓r_not, ↓r_cmp, ↓z_chn, ↓ch_b, ↓z_and, ↓an_b, ↓z_or, ↓or_b, ↓z_ite, ↓it_b, ↓r_tup, ↓r_lst, ↓r_idx, ↓r_slc, ↓r_call, ↓r_blt, ↓r_isi, ↓y_comp, ↓o_add, ↓o_sub, ↓o_neg, ↓o_mul, ↓o_modP, ↓o_fdivP, ↓o_lt, ↓o_le, ↓o_gt, ↓o_ge, ↓o_eq, ↓o_ne, ↓o_eqB, ↓o_neB, ↓o_isB, ↓o_isNotB, ↓o_isN, ↓o_isNotN, ↓o_ix0, ↓o_ix1, ↓o_ix2, ↓o_lx0, ↓o_lx1, ↓o_lx2, ↓o_lx3, ↓o_lenT, ↓o_lenL, ↓o_lenF, ↓o_listL, ↓o_listT, ↓o_listF, ↓o_tupL, ↓o_abs, ↓o_intI, ↓o_intB, ↓o_isiII, ↓o_isiBB, ↓o_isiTT, ↓o_isiLL, ↓o_ltP, ↓o_leP, ↓o_mnP2, ↓o_mxP2, ↓o_eqS, ↓o_k8, ↓o_k7, ↓o_eqP, ↓o_neP, ↓o_in2, ↓o_in3, ↓bu_f, ↓bu_t, ↓o_f1, ↓o_f2, ↓o_f3, ↓o_t1, ↓o_t2, ↓o_srtI, ↓o_srtP, ↓o_srtS, ↓o_srtT, ↓o_mn2, ↓o_mx2, ↓o_inP, ↓o_niP, ↓o_e00, ↓o_n00, ↓o_eq0, ↓o_ne0, ↓o_eqL, ↓o_neL, ↓r_nil, ↓r_cons, ↓r_tru, ↓i_val_, ↓i_T, ↓i_L, ↓i_F, ↓i_rng1_, ↓i_rng2_, ↓u_2, ↓u_3, ↓u_4, ↓u_l2, ↓u_l3, ↓u_l4, ↓u_n2, ↓u_n3, ↓u_n4, ↓u_nl2, ↓u_nl3, ↓u_nl4, ↓b_nm, ↓b_tp, ↓bw_nm, ↓bw_tp, ↓wip_0, ↓wip_s, ↓clk_0, ↓clk_s, ↓c_cons, ↓c_end, ↓z_set, ↓ps_n, ↓ps_l, ↓ps_s, ↓z_unp, ↓us_n, ↓z_app, ↓as_n, ↓as_l, ↓zz_for, ↓ws_T, ↓ws_F, ↓ws_S, ↓ws_Z, ↓z_for1, ↓z_for2, ↓y_ret, ↓re_n, ↓re_f, ↓re_v, ↓re_c, ↓ob_0, ↓ob_s, ↓x_expr, ↓x_ret0, ↓z_if, ↓if_b, ↓x_brk, ↓x_cnt, ↓x_pass, ↓x_nil, ↓z_cons, ↓x_aug, ↓aug_0, ↓aug_s, ↓toI_k, ↓zs_nx, ↓zs_rt, ↓zs_bk, ↓zs_ct, ↓zf_nil, ↓zf_cons, ↓zk_nx, ↓zk_ct, ↓zk_bk, ↓zk_rt, ↓z_whl, ↓zw_nx, ↓zw_ct, ↓zw_bk, ↓zw_rt, ↓getK_0, ↓getK_s, ↓setK_0, ↓setK_s, ↓setsK_0, ↓setsK_s, ↓ownK_0, ↓ownK_s, ↓llow_0, ↓llow_n, ↓llow_s, ↓un_var, ↓un_con, ↓un_bin, ↓un_cmp, ↓un_idx, ↓un_slc, ↓un_ite, ↓un_call, ↓un_blt, ↓un_tup, ↓un_lst, ↓un_nil, ↓un_cons, ↓rt_n, ↓rt_f, ↓rt_t, ↓rt_nx, ↓ok_bi, ↓reduceIte, List.map_cons, List.map_nil, List.cons_append, List.nil_append, List.replicate, ↓o_pq, ↓o_p10, ↓o_p20, ↓o_p30, ↓o_p38, ↓o_p39, ↓o_p40, ↓o_p59, ↓o_p60, ↓o_p64, sl, List.length_cons, List.length_nil, decide_true, decide_false, Bool.false_eq_true, Bool.not_true, Bool.not_false, decide_eq_true_eq, Int.reduceEq, Int.reduceNe, Int.reduceLT, Int.reduceLE, Int.reduceNeg, Int.reduceAdd, Int.reduceSub, Int.reduceMul, Nat.reduceAdd, Nat.reduceLeDiff, Nat.reduceSub, Nat.reduceMul, Int.reduceToNat, Int.cast_ofNat_Int, ↓o_inI2, h1, h2, h3, h4, h5]
  by_cases hW : twV ax ay bx by_ dx dy - twV ax ay bx by_ cx cy = 0
  · rw [if_pos hW] at hm
    rw [hW] at kW
    refine dec_to hm ?_
    by_cases h1 : twV ax ay bx by_ cx cy = 0
    · have mm : (lxP ax ay dx dy ∧ lxP cx cy bx by_) ↔ ((lxP ax ay bx by_ ∧ lxP ax ay dx dy) ∧ (lxP cx cy bx by_ ∧ lxP cx cy dx dy)) := ⟨fun z => ⟨⟨hab, z.1⟩, z.2, hcd⟩, fun z => ⟨z.1.2, z.2.1⟩⟩
      refine dec_to (p := twV ax ay bx by_ cx cy = 0 ∧ (lxP ax ay dx dy ∧ lxP cx cy bx by_)) (and_congr Iff.rfl mm) ?_
      by_cases m1 : lxP ax ay cx cy
      · by_cases m2 : lxP dx dy bx by_
        · have : decide (twV ax ay bx by_ cx cy = 0 ∧ ((lxP ax ay bx by_ ∧ lxP ax ay dx dy) ∧ (lxP cx cy bx by_ ∧ lxP cx cy dx dy))) = decide (lxP cx cy dx dy) := decide_eq_decide.mpr ⟨fun z => z.2.2.2, fun z => ⟨h1, by unfold lxP at *; omega⟩⟩
          rw [this]
          rw [h1] at k0
          simp (maxSteps := 10000000) (disch := omega) only [f9, ↓r_var, ↓r_cI, ↓r_cB, ↓r_cN, ↓r_cS, ↓r_bin, ↓r_neg, ↓r_not, ↓r_cmp, ↓z_chn, ↓ch_b, ↓z_and, ↓an_b, ↓z_or, ↓or_b, ↓z_ite, ↓it_b, ↓r_tup, ↓r_lst, ↓r_idx, ↓r_slc, ↓r_call, ↓r_blt, ↓r_isi, ↓y_comp, ↓o_add, ↓o_sub, ↓o_neg, ↓o_mul, ↓o_modP, ↓o_fdivP, ↓o_lt, ↓o_le, ↓o_gt, ↓o_ge, ↓o_eq, ↓o_ne, ↓o_eqB, ↓o_neB, ↓o_isB, ↓o_isNotB, ↓o_isN, ↓o_isNotN, ↓o_ix0, ↓o_ix1, ↓o_ix2, ↓o_lx0, ↓o_lx1, ↓o_lx2, ↓o_lx3, ↓o_lenT, ↓o_lenL, ↓o_lenF, ↓o_listL, ↓o_listT, ↓o_listF, ↓o_tupL, ↓o_abs, ↓o_intI, ↓o_intB, ↓o_isiII, ↓o_isiBB, ↓o_isiTT, ↓o_isiLL, ↓o_ltP, ↓o_leP, ↓o_mnP2, ↓o_mxP2, ↓o_eqS, ↓o_k8, ↓o_k7, ↓o_eqP, ↓o_neP, ↓o_in2, ↓o_in3, ↓bu_f, ↓bu_t, ↓o_f1, ↓o_f2, ↓o_f3, ↓o_t1, ↓o_t2, ↓o_srtI, ↓o_srtP, ↓o_srtS, ↓o_srtT, ↓o_mn2, ↓o_mx2, ↓o_inP, ↓o_niP, ↓o_e00, ↓o_n00, ↓o_eq0, ↓o_ne0, ↓o_eqL, ↓o_neL, ↓r_nil, ↓r_cons, ↓r_tru, ↓i_val_, ↓i_T, ↓i_L, ↓i_F, ↓i_rng1_, ↓i_rng2_, ↓u_2, ↓u_3, ↓u_4, ↓u_l2, ↓u_l3, ↓u_l4, ↓u_n2, ↓u_n3, ↓u_n4, ↓u_nl2, ↓u_nl3, ↓u_nl4, ↓b_nm, ↓b_tp, ↓bw_nm, ↓bw_tp, ↓wip_0, ↓wip_s, ↓clk_0, ↓clk_s, ↓c_cons, ↓c_end, ↓z_set, ↓ps_n, ↓ps_l, ↓ps_s, ↓z_unp, ↓us_n, ↓z_app, ↓as_n, ↓as_l, ↓zz_for, ↓ws_T, ↓ws_F, ↓ws_S, ↓ws_Z, ↓z_for1, ↓z_for2, ↓y_ret, ↓re_n, ↓re_f, ↓re_v, ↓re_c, ↓ob_0, ↓ob_s, ↓x_expr, ↓x_ret0, ↓z_if, ↓if_b, ↓x_brk, ↓x_cnt, ↓x_pass, ↓x_nil, ↓z_cons, ↓x_aug, ↓aug_0, ↓aug_s, ↓toI_k, ↓zs_nx, ↓zs_rt, ↓zs_bk, ↓zs_ct, ↓zf_nil, ↓zf_cons, ↓zk_nx, ↓zk_ct, ↓zk_bk, ↓zk_rt, ↓z_whl, ↓zw_nx, ↓zw_ct, ↓zw_bk, ↓zw_rt, ↓getK_0, ↓getK_s, ↓setK_0, ↓setK_s, ↓setsK_0, ↓setsK_s, ↓ownK_0, ↓ownK_s, ↓llow_0, ↓llow_n, ↓llow_s, ↓un_var, ↓un_con, ↓un_bin, ↓un_cmp, ↓un_idx, ↓un_slc, ↓un_ite, ↓un_call, ↓un_blt, ↓un_tup, ↓un_lst, ↓un_nil, ↓un_cons, ↓rt_n, ↓rt_f, ↓rt_t, ↓rt_nx, ↓ok_bi, ↓reduceIte, List.map_cons, List.map_nil, List.cons_append, List.nil_append, List.replicate, ↓o_pq, ↓o_p10, ↓o_p20, ↓o_p30, ↓o_p38, ↓o_p39, ↓o_p40, ↓o_p59, ↓o_p60, ↓o_p64, sl, List.length_cons, List.length_nil, decide_true, decide_false, Bool.false_eq_true, Bool.not_true, Bool.not_false, decide_eq_true_eq, Int.reduceEq, Int.reduceNe, Int.reduceLT, Int.reduceLE, Int.reduceNeg, Int.reduceAdd, Int.reduceSub, Int.reduceMul, Nat.reduceAdd, Nat.reduceLeDiff, Nat.reduceSub, Nat.reduceMul, Int.reduceToNat, Int.cast_ofNat_Int, ↓kW, ↓k0, m1, m2]
        · have : decide (twV ax ay bx by_ cx cy = 0 ∧ ((lxP ax ay bx by_ ∧ lxP ax ay dx dy) ∧ (lxP cx cy bx by_ ∧ lxP cx cy dx dy))) = decide (lxP cx cy bx by_) := decide_eq_decide.mpr ⟨fun z => z.2.2.1, fun z => ⟨h1, by unfold lxP at *; omega⟩⟩
          rw [this]
          rw [h1] at k0
          simp (maxSteps := 10000000) (disch := omega) only [f9, ↓r_var, ↓r_cI, ↓r_cB, ↓r_cN, ↓r_cS, ↓r_bin, ↓r_neg, ↓r_not, ↓r_cmp, ↓z_chn, ↓ch_b, ↓z_and, ↓an_b, ↓z_or, ↓or_b, ↓z_ite, ↓it_b, ↓r_tup, ↓r_lst, ↓r_idx, ↓r_slc, ↓r_call, ↓r_blt, ↓r_isi, ↓y_comp, ↓o_add, ↓o_sub, ↓o_neg, ↓o_mul, ↓o_modP, ↓o_fdivP, ↓o_lt, ↓o_le, ↓o_gt, ↓o_ge, ↓o_eq, ↓o_ne, ↓o_eqB, ↓o_neB, ↓o_isB, ↓o_isNotB, ↓o_isN, ↓o_isNotN, ↓o_ix0, ↓o_ix1, ↓o_ix2, ↓o_lx0, ↓o_lx1, ↓o_lx2, ↓o_lx3, ↓o_lenT, ↓o_lenL, ↓o_lenF, ↓o_listL, ↓o_listT, ↓o_listF, ↓o_tupL, ↓o_abs, ↓o_intI, ↓o_intB, ↓o_isiII, ↓o_isiBB, ↓o_isiTT, ↓o_isiLL, ↓o_ltP, ↓o_leP, ↓o_mnP2, ↓o_mxP2, ↓o_eqS, ↓o_k8, ↓o_k7, ↓o_eqP, ↓o_neP, ↓o_in2, ↓o_in3, ↓bu_f, ↓bu_t, ↓o_f1, ↓o_f2, ↓o_f3, ↓o_t1, ↓o_t2, ↓o_srtI, ↓o_srtP, ↓o_srtS, ↓o_srtT, ↓o_mn2, ↓o_mx2, ↓o_inP, ↓o_niP, ↓o_e00, ↓o_n00, ↓o_eq0, ↓o_ne0, ↓o_eqL, ↓o_neL, ↓r_nil, ↓r_cons, ↓r_tru, ↓i_val_, ↓i_T, ↓i_L, ↓i_F, ↓i_rng1_, ↓i_rng2_, ↓u_2, ↓u_3, ↓u_4, ↓u_l2, ↓u_l3, ↓u_l4, ↓u_n2, ↓u_n3, ↓u_n4, ↓u_nl2, ↓u_nl3, ↓u_nl4, ↓b_nm, ↓b_tp, ↓bw_nm, ↓bw_tp, ↓wip_0, ↓wip_s, ↓clk_0, ↓clk_s, ↓c_cons, ↓c_end, ↓z_set, ↓ps_n, ↓ps_l, ↓ps_s, ↓z_unp, ↓us_n, ↓z_app, ↓as_n, ↓as_l, ↓zz_for, ↓ws_T, ↓ws_F, ↓ws_S, ↓ws_Z, ↓z_for1, ↓z_for2, ↓y_ret, ↓re_n, ↓re_f, ↓re_v, ↓re_c, ↓ob_0, ↓ob_s, ↓x_expr, ↓x_ret0, ↓z_if, ↓if_b, ↓x_brk, ↓x_cnt, ↓x_pass, ↓x_nil, ↓z_cons, ↓x_aug, ↓aug_0, ↓aug_s, ↓toI_k, ↓zs_nx, ↓zs_rt, ↓zs_bk, ↓zs_ct, ↓zf_nil, ↓zf_cons, ↓zk_nx, ↓zk_ct, ↓zk_bk, ↓zk_rt, ↓z_whl, ↓zw_nx, ↓zw_ct, ↓zw_bk, ↓zw_rt, ↓getK_0, ↓getK_s, ↓setK_0, ↓setK_s, ↓setsK_0, ↓setsK_s, ↓ownK_0, ↓ownK_s, ↓llow_0, ↓llow_n, ↓llow_s, ↓un_var, ↓un_con, ↓un_bin, ↓un_cmp, ↓un_idx, ↓un_slc, ↓un_ite, ↓un_call, ↓un_blt, ↓un_tup, ↓un_lst, ↓un_nil, ↓un_cons, ↓rt_n, ↓rt_f, ↓rt_t, ↓rt_nx, ↓ok_bi, ↓reduceIte, List.map_cons, List.map_nil, List.cons_append, List.nil_append, List.replicate, ↓o_pq, ↓o_p10, ↓o_p20, ↓o_p30, ↓o_p38, ↓o_p39, ↓o_p40, ↓o_p59, ↓o_p60, ↓o_p64, sl, List.length_cons, List.length_nil, decide_true, decide_false, Bool.false_eq_true, Bool.not_true, Bool.not_false, decide_eq_true_eq, Int.reduceEq, Int.reduceNe, Int.reduceLT, Int.reduceLE, Int.reduceNeg, Int.reduceAdd, Int.reduceSub, Int.reduceMul, Nat.reduceAdd, Nat.reduceLeDiff, Nat.reduceSub, Nat.reduceMul, Int.reduceToNat, Int.cast_ofNat_Int, ↓kW, ↓k0, m1, m2]
      · by_cases m2 : lxP dx dy bx by_
        · have : decide (twV ax ay bx by_ cx cy = 0 ∧ ((lxP ax ay bx by_ ∧ lxP ax ay dx dy) ∧ (lxP cx cy bx by_ ∧ lxP cx cy dx dy))) = decide (lxP ax ay dx dy) := decide_eq_decide.mpr ⟨fun z => z.2.1.2, fun z => ⟨h1, by unfold lxP at *; omega⟩⟩
          rw [this]
          rw [h1] at k0
          simp (maxSteps := 10000000) (disch := omega) only [f9, ↓r_var, ↓r_cI, ↓r_cB, ↓r_cN, ↓r_cS, ↓r_bin, ↓r_neg, ↓r_not, ↓r_cmp, ↓z_chn, ↓ch_b, ↓z_and, ↓an_b, ↓z_or, ↓or_b, ↓z_ite, ↓it_b, ↓r_tup, ↓r_lst, ↓r_idx, ↓r_slc, ↓r_call, ↓r_blt, ↓r_isi, ↓y_comp, ↓o_add, ↓o_sub, ↓o_neg, ↓o_mul, ↓o_modP, ↓o_fdivP, ↓o_lt, ↓o_le, ↓o_gt, ↓o_ge, ↓o_eq, ↓o_ne, ↓o_eqB, ↓o_neB, ↓o_isB, ↓o_isNotB, ↓o_isN, ↓o_isNotN, ↓o_ix0, ↓o_ix1, ↓o_ix2, ↓o_lx0, ↓o_lx1, ↓o_lx2, ↓o_lx3, ↓o_lenT, ↓o_lenL, ↓o_lenF, ↓o_listL, ↓o_listT, ↓o_listF, ↓o_tupL, ↓o_abs, ↓o_intI, ↓o_intB, ↓o_isiII, ↓o_isiBB, ↓o_isiTT, ↓o_isiLL, ↓o_ltP, ↓o_leP, ↓o_mnP2, ↓o_mxP2, ↓o_eqS, ↓o_k8, ↓o_k7, ↓o_eqP, ↓o_neP, ↓o_in2, ↓o_in3, ↓bu_f, ↓bu_t, ↓o_f1, ↓o_f2, ↓o_f3, ↓o_t1, ↓o_t2, ↓o_srtI, ↓o_srtP, ↓o_srtS, ↓o_srtT, ↓o_mn2, ↓o_mx2, ↓o_inP, ↓o_niP, ↓o_e00, ↓o_n00, ↓o_eq0, ↓o_ne0, ↓o_eqL, ↓o_neL, ↓r_nil, ↓r_cons, ↓r_tru, ↓i_val_, ↓i_T, ↓i_L, ↓i_F, ↓i_rng1_, ↓i_rng2_, ↓u_2, ↓u_3, ↓u_4, ↓u_l2, ↓u_l3, ↓u_l4, ↓u_n2, ↓u_n3, ↓u_n4, ↓u_nl2, ↓u_nl3, ↓u_nl4, ↓b_nm, ↓b_tp, ↓bw_nm, ↓bw_tp, ↓wip_0, ↓wip_s, ↓clk_0, ↓clk_s, ↓c_cons, ↓c_end, ↓z_set, ↓ps_n, ↓ps_l, ↓ps_s, ↓z_unp, ↓us_n, ↓z_app, ↓as_n, ↓as_l, ↓zz_for, ↓ws_T, ↓ws_F, ↓ws_S, ↓ws_Z, ↓z_for1, ↓z_for2, ↓y_ret, ↓re_n, ↓re_f, ↓re_v, ↓re_c, ↓ob_0, ↓ob_s, ↓x_expr, ↓x_ret0, ↓z_if, ↓if_b, ↓x_brk, ↓x_cnt, ↓x_pass, ↓x_nil, ↓z_cons, ↓x_aug, ↓aug_0, ↓aug_s, ↓toI_k, ↓zs_nx, ↓zs_rt, ↓zs_bk, ↓zs_ct, ↓zf_nil, ↓zf_cons, ↓zk_nx, ↓zk_ct, ↓zk_bk, ↓zk_rt, ↓z_whl, ↓zw_nx, ↓zw_ct, ↓zw_bk, ↓zw_rt, ↓getK_0, ↓getK_s, ↓setK_0, ↓setK_s, ↓setsK_0, ↓setsK_s, ↓ownK_0, ↓ownK_s, ↓llow_0, ↓llow_n, ↓llow_s, ↓un_var, ↓un_con, ↓un_bin, ↓un_cmp, ↓un_idx, ↓un_slc, ↓un_ite, ↓un_call, ↓un_blt, ↓un_tup, ↓un_lst, ↓un_nil, ↓un_cons, ↓rt_n, ↓rt_f, ↓rt_t, ↓rt_nx, ↓ok_bi, ↓reduceIte, List.map_cons, List.map_nil, List.cons_append, List.nil_append, List.replicate, ↓o_pq, ↓o_p10, ↓o_p20, ↓o_p30, ↓o_p38, ↓o_p39, ↓o_p40, ↓o_p59, ↓o_p60, ↓o_p64, sl, List.length_cons, List.length_nil, decide_true, decide_false, Bool.false_eq_true, Bool.not_true, Bool.not_false, decide_eq_true_eq, Int.reduceEq, Int.reduceNe, Int.reduceLT, Int.reduceLE, Int.reduceNeg, Int.reduceAdd, Int.reduceSub, Int.reduceMul, Nat.reduceAdd, Nat.reduceLeDiff, Nat.reduceSub, Nat.reduceMul, Int.reduceToNat, Int.cast_ofNat_Int, ↓kW, ↓k0, m1, m2]
        · have : decide (twV ax ay bx by_ cx cy = 0 ∧ ((lxP ax ay bx by_ ∧ lxP ax ay dx dy) ∧ (lxP cx cy bx by_ ∧ lxP cx cy dx dy))) = decide (lxP ax ay bx by_) := decide_eq_decide.mpr ⟨fun z => z.2.1.1, fun z => ⟨h1, by unfold lxP at *; omega⟩⟩
          rw [this]
          rw [h1] at k0
          simp (maxSteps := 10000000) (disch := omega) only [f9, ↓r_var, ↓r_cI, ↓r_cB, ↓r_cN, ↓r_cS, ↓r_bin, ↓r_neg, ↓r_not, ↓r_cmp, ↓z_chn, ↓ch_b, ↓z_and, ↓an_b, ↓z_or, ↓or_b, ↓z_ite, ↓it_b, ↓r_tup, ↓r_lst, ↓r_idx, ↓r_slc, ↓r_call, ↓r_blt, ↓r_isi, ↓y_comp, ↓o_add, ↓o_sub, ↓o_neg, ↓o_mul, ↓o_modP, ↓o_fdivP, ↓o_lt, ↓o_le, ↓o_gt, ↓o_ge, ↓o_eq, ↓o_ne, ↓o_eqB, ↓o_neB, ↓o_isB, ↓o_isNotB, ↓o_isN, ↓o_isNotN, ↓o_ix0, ↓o_ix1, ↓o_ix2, ↓o_lx0, ↓o_lx1, ↓o_lx2, ↓o_lx3, ↓o_lenT, ↓o_lenL, ↓o_lenF, ↓o_listL, ↓o_listT, ↓o_listF, ↓o_tupL, ↓o_abs, ↓o_intI, ↓o_intB, ↓o_isiII, ↓o_isiBB, ↓o_isiTT, ↓o_isiLL, ↓o_ltP, ↓o_leP, ↓o_mnP2, ↓o_mxP2, ↓o_eqS, ↓o_k8, ↓o_k7, ↓o_eqP, ↓o_neP, ↓o_in2, ↓o_in3, ↓bu_f, ↓bu_t, ↓o_f1, ↓o_f2, ↓o_f3, ↓o_t1, ↓o_t2, ↓o_srtI, ↓o_srtP, ↓o_srtS, ↓o_srtT, ↓o_mn2, ↓o_mx2, ↓o_inP, ↓o_niP, ↓o_e00, ↓o_n00, ↓o_eq0, ↓o_ne0, ↓o_eqL, ↓o_neL, ↓r_nil, ↓r_cons, ↓r_tru, ↓i_val_, ↓i_T, ↓i_L, ↓i_F, ↓i_rng1_, ↓i_rng2_, ↓u_2, ↓u_3, ↓u_4, ↓u_l2, ↓u_l3, ↓u_l4, ↓u_n2, ↓u_n3, ↓u_n4, ↓u_nl2, ↓u_nl3, ↓u_nl4, ↓b_nm, ↓b_tp, ↓bw_nm, ↓bw_tp, ↓wip_0, ↓wip_s, ↓clk_0, ↓clk_s, ↓c_cons, ↓c_end, ↓z_set, ↓ps_n, ↓ps_l, ↓ps_s, ↓z_unp, ↓us_n, ↓z_app, ↓as_n, ↓as_l, ↓zz_for, ↓ws_T, ↓ws_F, ↓ws_S, ↓ws_Z, ↓z_for1, ↓z_for2, ↓y_ret, ↓re_n, ↓re_f, ↓re_v, ↓re_c, ↓ob_0, ↓ob_s, ↓x_expr, ↓x_ret0, ↓z_if, ↓if_b, ↓x_brk, ↓x_cnt, ↓x_pass, ↓x_nil, ↓z_cons, ↓x_aug, ↓aug_0, ↓aug_s, ↓toI_k, ↓zs_nx, ↓zs_rt, ↓zs_bk, ↓zs_ct, ↓zf_nil, ↓zf_cons, ↓zk_nx, ↓zk_ct, ↓zk_bk, ↓zk_rt, ↓z_whl, ↓zw_nx, ↓zw_ct, ↓zw_bk, ↓zw_rt, ↓getK_0, ↓getK_s, ↓setK_0, ↓setK_s, ↓setsK_0, ↓setsK_s, ↓ownK_0, ↓ownK_s, ↓llow_0, ↓llow_n, ↓llow_s, ↓un_var, ↓un_con, ↓un_bin, ↓un_cmp, ↓un_idx, ↓un_slc, ↓un_ite, ↓un_call, ↓un_blt, ↓un_tup, ↓un_lst, ↓un_nil, ↓un_cons, ↓rt_n, ↓rt_f, ↓rt_t, ↓rt_nx, ↓ok_bi, ↓reduceIte, List.map_cons, List.map_nil, List.cons_append, List.nil_append, List.replicate, ↓o_pq, ↓o_p10, ↓o_p20, ↓o_p30, ↓o_p38, ↓o_p39, ↓o_p40, ↓o_p59, ↓o_p60, ↓o_p64, sl, List.length_cons, List.length_nil, decide_true, decide_false, Bool.false_eq_true, Bool.not_true, Bool.not_false, decide_eq_true_eq, Int.reduceEq, Int.reduceNe, Int.reduceLT, Int.reduceLE, Int.reduceNeg, Int.reduceAdd, Int.reduceSub, Int.reduceMul, Nat.reduceAdd, Nat.reduceLeDiff, Nat.reduceSub, Nat.reduceMul, Int.reduceToNat, Int.cast_ofNat_Int, ↓kW, ↓k0, m1, m2]
    · rw [show decide (tw (ax, ay) (bx, by_) (cx, cy) = 0 ∧ lx (ax, ay) (dx, dy) ∧ lx (cx, cy) (bx, by_)) = false from decide_eq_false (fun z => h1 z.1)]
      simp (maxSteps := 10000000) (disch := omega) only [f9, ↓r_var, ↓r_cI, ↓r_cB, ↓r_cN, ↓r_cS, ↓r_bin, ↓r_neg, ↓r_not, ↓r_cmp, ↓z_chn, ↓ch_b, ↓z_and, ↓an_b, ↓z_or, ↓or_b, ↓z_ite, ↓it_b, ↓r_tup, ↓r_lst, ↓r_idx, ↓r_slc, ↓r_call, ↓r_blt, ↓r_isi, ↓y_comp, ↓o_add, ↓o_sub, ↓o_neg, ↓o_mul, ↓o_modP, ↓o_fdivP, ↓o_lt, ↓o_le, ↓o_gt, ↓o_ge, ↓o_eq, ↓o_ne, ↓o_eqB, ↓o_neB, ↓o_isB, ↓o_isNotB, ↓o_isN, ↓o_isNotN, ↓o_ix0, ↓o_ix1, ↓o_ix2, ↓o_lx0, ↓o_lx1, ↓o_lx2, ↓o_lx3, ↓o_lenT, ↓o_lenL, ↓o_lenF, ↓o_listL, ↓o_listT, ↓o_listF, ↓o_tupL, ↓o_abs, ↓o_intI, ↓o_intB, ↓o_isiII, ↓o_isiBB, ↓o_isiTT, ↓o_isiLL, ↓o_ltP, ↓o_leP, ↓o_mnP2, ↓o_mxP2, ↓o_eqS, ↓o_k8, ↓o_k7, ↓o_eqP, ↓o_neP, ↓o_in2, ↓o_in3, ↓bu_f, ↓bu_t, ↓o_f1, ↓o_f2, ↓o_f3, ↓o_t1, ↓o_t2, ↓o_srtI, ↓o_srtP, ↓o_srtS, ↓o_srtT, ↓o_mn2, ↓o_mx2, ↓o_inP, ↓o_niP, ↓o_e00, ↓o_n00, ↓o_eq0, ↓o_ne0, ↓o_eqL, ↓o_neL, ↓r_nil, ↓r_cons, ↓r_tru, ↓i_val_, ↓i_T, ↓i_L, ↓i_F, ↓i_rng1_, ↓i_rng2_, ↓u_2, ↓u_3, ↓u_4, ↓u_l2, ↓u_l3, ↓u_l4, ↓u_n2, ↓u_n3, ↓u_n4, ↓u_nl2, ↓u_nl3, ↓u_nl4, ↓b_nm, ↓b_tp, ↓bw_nm, ↓bw_tp, ↓wip_0, ↓wip_s, ↓clk_0, ↓clk_s, ↓c_cons, ↓c_end, ↓z_set, ↓ps_n, ↓ps_l, ↓ps_s, ↓z_unp, ↓us_n, ↓z_app, ↓as_n, ↓as_l, ↓zz_for, ↓ws_T, ↓ws_F, ↓ws_S, ↓ws_Z, ↓z_for1, ↓z_for2, ↓y_ret, ↓re_n, ↓re_f, ↓re_v, ↓re_c, ↓ob_0, ↓ob_s, ↓x_expr, ↓x_ret0, ↓z_if, ↓if_b, ↓x_brk, ↓x_cnt, ↓x_pass, ↓x_nil, ↓z_cons, ↓x_aug, ↓aug_0, ↓aug_s, ↓toI_k, ↓zs_nx, ↓zs_rt, ↓zs_bk, ↓zs_ct, ↓zf_nil, ↓zf_cons, ↓zk_nx, ↓zk_ct, ↓zk_bk, ↓zk_rt, ↓z_whl, ↓zw_nx, ↓zw_ct, ↓zw_bk, ↓zw_rt, ↓getK_0, ↓getK_s, ↓setK_0, ↓setK_s, ↓setsK_0, ↓setsK_s, ↓ownK_0, ↓ownK_s, ↓llow_0, ↓llow_n, ↓llow_s, ↓un_var, ↓un_con, ↓un_bin, ↓un_cmp, ↓un_idx, ↓un_slc, ↓un_ite, ↓un_call, ↓un_blt, ↓un_tup, ↓un_lst, ↓un_nil, ↓un_cons, ↓rt_n, ↓rt_f, ↓rt_t, ↓rt_nx, ↓ok_bi, ↓reduceIte, List.map_cons, List.map_nil, List.cons_append, List.nil_append, List.replicate, ↓o_pq, ↓o_p10, ↓o_p20, ↓o_p30, ↓o_p38, ↓o_p39, ↓o_p40, ↓o_p59, ↓o_p60, ↓o_p64, sl, List.length_cons, List.length_nil, decide_true, decide_false, Bool.false_eq_true, Bool.not_true, Bool.not_false, decide_eq_true_eq, Int.reduceEq, Int.reduceNe, Int.reduceLT, Int.reduceLE, Int.reduceNeg, Int.reduceAdd, Int.reduceSub, Int.reduceMul, Nat.reduceAdd, Nat.reduceLeDiff, Nat.reduceSub, Nat.reduceMul, Int.reduceToNat, Int.cast_ofNat_Int, ↓kW, ↓k0, h1]
  · rw [if_neg hW] at hm
    by_cases hN : twV ax ay bx by_ dx dy - twV ax ay bx by_ cx cy < 0
    · rw [if_pos hN] at hm
      refine dec_to hm ?_
      simp (maxSteps := 10000000) (disch := omega) only [f9, ↓r_var, ↓r_cI, ↓r_cB, ↓r_cN, ↓r_cS, ↓r_bin, ↓r_neg, ↓r_not, ↓r_cmp, ↓z_chn, ↓ch_b, ↓z_and, ↓an_b, ↓z_or, ↓or_b, ↓z_ite, ↓it_b, ↓r_tup, ↓r_lst, ↓r_idx, ↓r_slc, ↓r_call, ↓r_blt, ↓r_isi, ↓y_comp, ↓o_add, ↓o_sub, ↓o_neg, ↓o_mul, ↓o_modP, ↓o_fdivP, ↓o_lt, ↓o_le, ↓o_gt, ↓o_ge, ↓o_eq, ↓o_ne, ↓o_eqB, ↓o_neB, ↓o_isB, ↓o_isNotB, ↓o_isN, ↓o_isNotN, ↓o_ix0, ↓o_ix1, ↓o_ix2, ↓o_lx0, ↓o_lx1, ↓o_lx2, ↓o_lx3, ↓o_lenT, ↓o_lenL, ↓o_lenF, ↓o_listL, ↓o_listT, ↓o_listF, ↓o_tupL, ↓o_abs, ↓o_intI, ↓o_intB, ↓o_isiII, ↓o_isiBB, ↓o_isiTT, ↓o_isiLL, ↓o_ltP, ↓o_leP, ↓o_mnP2, ↓o_mxP2, ↓o_eqS, ↓o_k8, ↓o_k7, ↓o_eqP, ↓o_neP, ↓o_in2, ↓o_in3, ↓bu_f, ↓bu_t, ↓o_f1, ↓o_f2, ↓o_f3, ↓o_t1, ↓o_t2, ↓o_srtI, ↓o_srtP, ↓o_srtS, ↓o_srtT, ↓o_mn2, ↓o_mx2, ↓o_inP, ↓o_niP, ↓o_e00, ↓o_n00, ↓o_eq0, ↓o_ne0, ↓o_eqL, ↓o_neL, ↓r_nil, ↓r_cons, ↓r_tru, ↓i_val_, ↓i_T, ↓i_L, ↓i_F, ↓i_rng1_, ↓i_rng2_, ↓u_2, ↓u_3, ↓u_4, ↓u_l2, ↓u_l3, ↓u_l4, ↓u_n2, ↓u_n3, ↓u_n4, ↓u_nl2, ↓u_nl3, ↓u_nl4, ↓b_nm, ↓b_tp, ↓bw_nm, ↓bw_tp, ↓wip_0, ↓wip_s, ↓clk_0, ↓clk_s, ↓c_cons, ↓c_end, ↓z_set, ↓ps_n, ↓ps_l, ↓ps_s, ↓z_unp, ↓us_n, ↓z_app, ↓as_n, ↓as_l, ↓zz_for, ↓ws_T, ↓ws_F, ↓ws_S, ↓ws_Z, ↓z_for1, ↓z_for2, ↓y_ret, ↓re_n, ↓re_f, ↓re_v, ↓re_c, ↓ob_0, ↓ob_s, ↓x_expr, ↓x_ret0, ↓z_if, ↓if_b, ↓x_brk, ↓x_cnt, ↓x_pass, ↓x_nil, ↓z_cons, ↓x_aug, ↓aug_0, ↓aug_s, ↓toI_k, ↓zs_nx, ↓zs_rt, ↓zs_bk, ↓zs_ct, ↓zf_nil, ↓zf_cons, ↓zk_nx, ↓zk_ct, ↓zk_bk, ↓zk_rt, ↓z_whl, ↓zw_nx, ↓zw_ct, ↓zw_bk, ↓zw_rt, ↓getK_0, ↓getK_s, ↓setK_0, ↓setK_s, ↓setsK_0, ↓setsK_s, ↓ownK_0, ↓ownK_s, ↓llow_0, ↓llow_n, ↓llow_s, ↓un_var, ↓un_con, ↓un_bin, ↓un_cmp, ↓un_idx, ↓un_slc, ↓un_ite, ↓un_call, ↓un_blt, ↓un_tup, ↓un_lst, ↓un_nil, ↓un_cons, ↓rt_n, ↓rt_f, ↓rt_t, ↓rt_nx, ↓ok_bi, ↓reduceIte, List.map_cons, List.map_nil, List.cons_append, List.nil_append, List.replicate, ↓o_pq, ↓o_p10, ↓o_p20, ↓o_p30, ↓o_p38, ↓o_p39, ↓o_p40, ↓o_p59, ↓o_p60, ↓o_p64, sl, List.length_cons, List.length_nil, decide_true, decide_false, Bool.false_eq_true, Bool.not_true, Bool.not_false, decide_eq_true_eq, Int.reduceEq, Int.reduceNe, Int.reduceLT, Int.reduceLE, Int.reduceNeg, Int.reduceAdd, Int.reduceSub, Int.reduceMul, Nat.reduceAdd, Nat.reduceLeDiff, Nat.reduceSub, Nat.reduceMul, Int.reduceToNat, Int.cast_ofNat_Int, ↓kW, ↓kH, ↓kT, hW, hN, Int.neg_neg, ↓tail]
    · rw [if_neg hN] at hm
      refine dec_to hm ?_
      simp (maxSteps := 10000000) (disch := omega) only [f9, ↓r_var, ↓r_cI, ↓r_cB, ↓r_cN, ↓r_cS, ↓r_bin, ↓r_neg, ↓r_not, ↓r_cmp, ↓z_chn, ↓ch_b, ↓z_and, ↓an_b, ↓z_or, ↓or_b, ↓z_ite, ↓it_b, ↓r_tup, ↓r_lst, ↓r_idx, ↓r_slc, ↓r_call, ↓r_blt, ↓r_isi, ↓y_comp, ↓o_add, ↓o_sub, ↓o_neg, ↓o_mul, ↓o_modP, ↓o_fdivP, ↓o_lt, ↓o_le, ↓o_gt, ↓o_ge, ↓o_eq, ↓o_ne, ↓o_eqB, ↓o_neB, ↓o_isB, ↓o_isNotB, ↓o_isN, ↓o_isNotN, ↓o_ix0, ↓o_ix1, ↓o_ix2, ↓o_lx0, ↓o_lx1, ↓o_lx2, ↓o_lx3, ↓o_lenT, ↓o_lenL, ↓o_lenF, ↓o_listL, ↓o_listT, ↓o_listF, ↓o_tupL, ↓o_abs, ↓o_intI, ↓o_intB, ↓o_isiII, ↓o_isiBB, ↓o_isiTT, ↓o_isiLL, ↓o_ltP, ↓o_leP, ↓o_mnP2, ↓o_mxP2, ↓o_eqS, ↓o_k8, ↓o_k7, ↓o_eqP, ↓o_neP, ↓o_in2, ↓o_in3, ↓bu_f, ↓bu_t, ↓o_f1, ↓o_f2, ↓o_f3, ↓o_t1, ↓o_t2, ↓o_srtI, ↓o_srtP, ↓o_srtS, ↓o_srtT, ↓o_mn2, ↓o_mx2, ↓o_inP, ↓o_niP, ↓o_e00, ↓o_n00, ↓o_eq0, ↓o_ne0, ↓o_eqL, ↓o_neL, ↓r_nil, ↓r_cons, ↓r_tru, ↓i_val_, ↓i_T, ↓i_L, ↓i_F, ↓i_rng1_, ↓i_rng2_, ↓u_2, ↓u_3, ↓u_4, ↓u_l2, ↓u_l3, ↓u_l4, ↓u_n2, ↓u_n3, ↓u_n4, ↓u_nl2, ↓u_nl3, ↓u_nl4, ↓b_nm, ↓b_tp, ↓bw_nm, ↓bw_tp, ↓wip_0, ↓wip_s, ↓clk_0, ↓clk_s, ↓c_cons, ↓c_end, ↓z_set, ↓ps_n, ↓ps_l, ↓ps_s, ↓z_unp, ↓us_n, ↓z_app, ↓as_n, ↓as_l, ↓zz_for, ↓ws_T, ↓ws_F, ↓ws_S, ↓ws_Z, ↓z_for1, ↓z_for2, ↓y_ret, ↓re_n, ↓re_f, ↓re_v, ↓re_c, ↓ob_0, ↓ob_s, ↓x_expr, ↓x_ret0, ↓z_if, ↓if_b, ↓x_brk, ↓x_cnt, ↓x_pass, ↓x_nil, ↓z_cons, ↓x_aug, ↓aug_0, ↓aug_s, ↓toI_k, ↓zs_nx, ↓zs_rt, ↓zs_bk, ↓zs_ct, ↓zf_nil, ↓zf_cons, ↓zk_nx, ↓zk_ct, ↓zk_bk, ↓zk_rt, ↓z_whl, ↓zw_nx, ↓zw_ct, ↓zw_bk, ↓zw_rt, ↓getK_0, ↓getK_s, ↓setK_0, ↓setK_s, ↓setsK_0, ↓setsK_s, ↓ownK_0, ↓ownK_s, ↓llow_0, ↓llow_n, ↓llow_s, ↓un_var, ↓un_con, ↓un_bin, ↓un_cmp, ↓un_idx, ↓un_slc, ↓un_ite, ↓un_call, ↓un_blt, ↓un_tup, ↓un_lst, ↓un_nil, ↓un_cons, ↓rt_n, ↓rt_f, ↓rt_t, ↓rt_nx, ↓ok_bi, ↓reduceIte, List.map_cons, List.map_nil, List.cons_append, List.nil_append, List.replicate, ↓o_pq, ↓o_p10, ↓o_p20, ↓o_p30, ↓o_p38, ↓o_p39, ↓o_p40, ↓o_p59, ↓o_p60, ↓o_p64, sl, List.length_cons, List.length_nil, decide_true, decide_false, Bool.false_eq_true, Bool.not_true, Bool.not_false, decide_eq_true_eq, Int.reduceEq, Int.reduceNe, Int.reduceLT, Int.reduceLE, Int.reduceNeg, Int.reduceAdd, Int.reduceSub, Int.reduceMul, Nat.reduceAdd, Nat.reduceLeDiff, Nat.reduceSub, Nat.reduceMul, Int.reduceToNat, Int.cast_ofNat_Int, ↓kW, ↓kH, ↓kT, hW, hN, ↓tail]
theorem lmeet_k {n : Nat} (hn : 2 ≤ n) {ax ay bx by_ cx cy dx dy : Int} [Sz 1000 ax] [Sz 1000 ay] [Sz 1000 bx] [Sz 1000 by_] [Sz 1000 cx] [Sz 1000 cy] [Sz 1000 dx] [Sz 1000 dy] (hab : lxP ax ay bx by_) (hcd : lxP cx cy dx dy) {β : Type} {q : U → VR β} : (callV T F n 9 [.tup [.tup [.int ax, .int ay], .tup [.int bx, .int by_]], .tup [.tup [.int cx, .int cy], .tup [.int dx, .int dy]]]).bind q = q (.bl (decide (meetP (ax, ay) (bx, by_) (cx, cy) (dx, dy)))) := bi_of (lmeet_ok hn hab hcd)

def BdP (p : Pt) : Prop := Sz 1000 p.1 ∧ Sz 1000 p.2
theorem at_getD {α : Type} {f : α → U} {xs : List α} {j : Int} (z : α) (h0 : 0 ≤ j) (h1 : j < xs.length) : atI (xs.map f) j = some (f (xs.getD j.toNat z)) := by
  unfold atI ixN
  rw [if_pos h0, if_pos (by simpa using h1)]
  have h2 : j.toNat < xs.length := by omega
  simp [h2]
/-- of places in order the earlier is the lesser -/
theorem row_lt {R : List Pt} (hs : R.Pairwise fun a b => ltP b a = false) (hd : R.Nodup) {i j : Nat} (hij : i < j) (hj : j < R.length) : lx (R.getD i (0, 0)) (R.getD j (0, 0)) := by
  rw [List.getD_eq_getElem?_getD, List.getD_eq_getElem?_getD, List.getElem?_eq_getElem (by omega), List.getElem?_eq_getElem hj]
  have h1 := List.pairwise_iff_getElem.mp hs i j (by omega) hj hij
  have h2 := List.pairwise_iff_getElem.mp hd i j (by omega) hj hij
  show lx R[i] R[j]
  rw [ltP_lx] at h1
  have h1 := of_decide_eq_false h1
  rcases lx_or h2 with z | z
  · exact z
  · exact absurd z h1
theorem law_tail {ns : List Int} {ps : List Pt} (hd : ps.Nodup) (hb : ∀ p ∈ ps, BdP p) (hl : ps.length ≤ 5) {o5 o6 o8 o9 : Option (Bool × U)} {w : Bool} :
    (exVB F (callV T F 19) (.cons (.set 2 (.blt .sorted (.cons (.var 1) .nil))) (.cons (.set 3 (.comp [10] (.nm 10) (.rng1 (.con (.int 25))) (.and (.cmp .lt (.bin .mod (.var 10) (.con (.int 5))) (.bin .fdiv (.var 10) (.con (.int 5)))) (.cmp .lt (.bin .fdiv (.var 10) (.con (.int 5))) (.blt .len (.cons (.var 2) .nil)))) (.tup (.cons (.idx (.var 2) (.bin .mod (.var 10) (.con (.int 5)))) (.cons (.idx (.var 2) (.bin .fdiv (.var 10) (.con (.int 5)))) .nil))))) (.cons (.for_ (.nm 4) (.val (.var 3)) (.cons (.for_ (.nm 7) (.val (.var 3)) (.cons (.set 11 (.call 4 (.cons (.var 4) (.cons (.var 7) .nil)))) (.cons (.ifs (.or (.not (.isi (.var 11) .bool)) (.cmp .ne (.var 11) (.call 9 (.cons (.var 4) (.cons (.var 7) .nil))))) (.cons (.ret (.con (.bl false))) .nil) .nil) .nil))) .nil)) (.cons (.ret (.con (.bl true))) .nil)))) [some (false, scr ns), some (true, .lst (ps.map ptU)), none, none, none, o5, o6, none, o8, o9, none, none]).bind (retK false) = .ok (.bl true) := by
  have rs := srt_ord tot_pt ps
  have rd : (srt ltP ps).Nodup := (srt_perm ps).nodup_iff.mpr hd
  have rb : ∀ p ∈ srt ltP ps, BdP p := fun p hp => hb p (srt_mem.mp hp)
  have rl : (srt ltP ps).length ≤ 5 := by rw [(srt_perm ps).length_eq]; exact hl
  have rg : ∀ {β : Type} {q : List U → VR β}, (rngU (.int 0) (.int 25)).bind q = q ((List.range 25).map fun k => .int (0 + (k : Nat))) := fun {β q} => o_rng ⟨by decide, by decide, by decide, by decide⟩
  simp (maxSteps := 10000000) (disch := omega) only [↓r_var, ↓r_cI, ↓r_cB, ↓r_cN, ↓r_cS, ↓r_bin, ↓r_neg, ↓r_not, ↓r_cmp, ↓z_chn, ↓ch_b, ↓z_and, ↓an_b, ↓z_or, ↓or_b, ↓z_ite, ↓it_b, ↓r_tup, ↓r_lst, ↓r_idx, ↓r_slc, ↓r_call, ↓r_blt, ↓r_isi, ↓y_comp, ↓o_add, ↓o_sub, ↓o_neg, ↓o_mul, ↓o_modP, ↓o_fdivP, ↓o_lt, ↓o_le, ↓o_gt, ↓o_ge, ↓o_eq, ↓o_ne, ↓o_eqB, ↓o_neB, ↓o_isB, ↓o_isNotB, ↓o_isN, ↓o_isNotN, ↓o_ix0, ↓o_ix1, ↓o_ix2, ↓o_lx0, ↓o_lx1, ↓o_lx2, ↓o_lx3, ↓o_lenT, ↓o_lenL, ↓o_lenF, ↓o_listL, ↓o_listT, ↓o_listF, ↓o_tupL, ↓o_abs, ↓o_intI, ↓o_intB, ↓o_isiII, ↓o_isiBB, ↓o_isiTT, ↓o_isiLL, ↓o_ltP, ↓o_leP, ↓o_mnP2, ↓o_mxP2, ↓o_eqS, ↓o_k8, ↓o_k7, ↓o_eqP, ↓o_neP, ↓o_in2, ↓o_in3, ↓bu_f, ↓bu_t, ↓o_f1, ↓o_f2, ↓o_f3, ↓o_t1, ↓o_t2, ↓o_srtI, ↓o_srtP, ↓o_srtS, ↓o_srtT, ↓o_mn2, ↓o_mx2, ↓o_inP, ↓o_niP, ↓o_e00, ↓o_n00, ↓o_eq0, ↓o_ne0, ↓o_eqL, ↓o_neL, ↓r_nil, ↓r_cons, ↓r_tru, ↓i_val_, ↓i_T, ↓i_L, ↓i_F, ↓i_rng1_, ↓i_rng2_, ↓u_2, ↓u_3, ↓u_4, ↓u_l2, ↓u_l3, ↓u_l4, ↓u_n2, ↓u_n3, ↓u_n4, ↓u_nl2, ↓u_nl3, ↓u_nl4, ↓b_nm, ↓b_tp, ↓bw_nm, ↓bw_tp, ↓wip_0, ↓wip_s, ↓clk_0, ↓clk_s, ↓z_set, ↓ps_n, ↓ps_l, ↓ps_s, ↓z_unp, ↓us_n, ↓z_app, ↓as_n, ↓as_l, ↓zz_for, ↓ws_T, ↓ws_F, ↓ws_S, ↓ws_Z, ↓z_for1, ↓z_for2, ↓y_ret, ↓re_n, ↓re_f, ↓re_v, ↓re_c, ↓ob_0, ↓ob_s, ↓x_expr, ↓x_ret0, ↓z_if, ↓if_b, ↓x_brk, ↓x_cnt, ↓x_pass, ↓x_nil, ↓z_cons, ↓x_aug, ↓aug_0, ↓aug_s, ↓toI_k, ↓zs_nx, ↓zs_rt, ↓zs_bk, ↓zs_ct, ↓zk_nx, ↓zk_ct, ↓zk_bk, ↓zk_rt, ↓z_whl, ↓zw_nx, ↓zw_ct, ↓zw_bk, ↓zw_rt, ↓getK_0, ↓getK_s, ↓setK_0, ↓setK_s, ↓setsK_0, ↓setsK_s, ↓ownK_0, ↓ownK_s, ↓llow_0, ↓llow_n, ↓llow_s, ↓un_var, ↓un_con, ↓un_bin, ↓un_cmp, ↓un_idx, ↓un_slc, ↓un_ite, ↓un_call, ↓un_blt, ↓un_tup, ↓un_lst, ↓un_nil, ↓un_cons, ↓rt_n, ↓rt_f, ↓rt_t, ↓rt_nx, ↓ok_bi, ↓reduceIte, List.map_cons, List.map_nil, List.cons_append, List.nil_append, List.replicate, ↓o_pq, ↓o_p10, ↓o_p20, ↓o_p30, ↓o_p38, ↓o_p39, ↓o_p40, ↓o_p59, ↓o_p60, ↓o_p64, sl, List.length_cons, List.length_nil, decide_true, decide_false, Bool.false_eq_true, Bool.not_true, Bool.not_false, decide_eq_true_eq, Int.reduceEq, Int.reduceNe, Int.reduceLT, Int.reduceLE, Int.reduceNeg, Int.reduceAdd, Int.reduceSub, Int.reduceMul, Nat.reduceAdd, Nat.reduceLeDiff, Nat.reduceSub, Nat.reduceMul, Int.reduceToNat, Int.cast_ofNat_Int, ↓rg]
  generalize srt ltP ps = R at *
  have at5 : ∀ i : Nat, i < R.length → BdP (R.getD i (0, 0)) := fun i hi => by
    rw [List.getD_eq_getElem?_getD, List.getElem?_eq_getElem hi]
    exact rb _ (List.getElem_mem hi)
  rw [if_pos (by rw [List.length_map, List.length_range]; exact Nat.le_of_lt (small1000 (by omega)))]
  let p : Nat → Bool := fun k => decide (k % 5 < k / 5 ∧ k / 5 < R.length)
  let g : Nat → Sd := fun k => (R.getD (k % 5) (0, 0), R.getD (k / 5) (0, 0))
  have hL : ∃ L : List Sd, (∀ s ∈ L, lx s.1 s.2 ∧ BdP s.1 ∧ BdP s.2) ∧ ((List.range 25).filter p).map (fun k => sdU (g k)) = L.map sdU := by
    refine ⟨((List.range 25).filter p).map g, fun s hs => ?_, by rw [List.map_map]; rfl⟩
    obtain ⟨k, hk, rfl⟩ := List.mem_map.mp hs
    have hk := of_decide_eq_true (List.mem_filter.mp hk).2
    exact ⟨row_lt rs rd hk.1 hk.2, at5 _ (by omega), at5 _ hk.2⟩
  obtain ⟨L, hL, eL⟩ := hL
  refine nox_run (a := L.map sdU) ?_ ?_
  · rw [bind_id, comps_fm (α := Nat) (f := fun k => .int (0 + (k : Nat))) p (fun k => sdU (g k)) (fun k hk => ?_), eL]
    have hk : k < 25 := List.mem_range.mp hk
    refine ⟨_, rfl, ?_, fun hp => ?_⟩
    · rw [← bind_id (VR.bind _ _)]
      by_cases c1 : (0 + (k : Int)) % 5 < (0 + (k : Int)) / 5
      · by_cases c2 : (0 + (k : Int)) / 5 < (R.length : Int)
        · rw [show p k = true from decide_eq_true (by omega)]
          simp (maxSteps := 10000000) (disch := omega) only [↓r_var, ↓r_cI, ↓r_cB, ↓r_cN, ↓r_cS, ↓r_bin, ↓r_neg, ↓r_not, ↓r_cmp, ↓z_chn, ↓ch_b, ↓z_and, ↓an_b, ↓z_or, ↓or_b, ↓z_ite, ↓it_b, ↓r_tup, ↓r_lst, ↓r_idx, ↓r_slc, ↓r_call, ↓r_blt, ↓r_isi, ↓y_comp, ↓o_add, ↓o_sub, ↓o_neg, ↓o_mul, ↓o_modP, ↓o_fdivP, ↓o_lt, ↓o_le, ↓o_gt, ↓o_ge, ↓o_eq, ↓o_ne, ↓o_eqB, ↓o_neB, ↓o_isB, ↓o_isNotB, ↓o_isN, ↓o_isNotN, ↓o_ix0, ↓o_ix1, ↓o_ix2, ↓o_lx0, ↓o_lx1, ↓o_lx2, ↓o_lx3, ↓o_lenT, ↓o_lenL, ↓o_lenF, ↓o_listL, ↓o_listT, ↓o_listF, ↓o_tupL, ↓o_abs, ↓o_intI, ↓o_intB, ↓o_isiII, ↓o_isiBB, ↓o_isiTT, ↓o_isiLL, ↓o_ltP, ↓o_leP, ↓o_mnP2, ↓o_mxP2, ↓o_eqS, ↓o_k8, ↓o_k7, ↓o_eqP, ↓o_neP, ↓o_in2, ↓o_in3, ↓bu_f, ↓bu_t, ↓o_f1, ↓o_f2, ↓o_f3, ↓o_t1, ↓o_t2, ↓o_srtI, ↓o_srtP, ↓o_srtS, ↓o_srtT, ↓o_mn2, ↓o_mx2, ↓o_inP, ↓o_niP, ↓o_e00, ↓o_n00, ↓o_eq0, ↓o_ne0, ↓o_eqL, ↓o_neL, ↓r_nil, ↓r_cons, ↓r_tru, ↓i_val_, ↓i_T, ↓i_L, ↓i_F, ↓i_rng1_, ↓i_rng2_, ↓u_2, ↓u_3, ↓u_4, ↓u_l2, ↓u_l3, ↓u_l4, ↓u_n2, ↓u_n3, ↓u_n4, ↓u_nl2, ↓u_nl3, ↓u_nl4, ↓b_nm, ↓b_tp, ↓bw_nm, ↓bw_tp, ↓wip_0, ↓wip_s, ↓clk_0, ↓clk_s, ↓c_cons, ↓c_end, ↓z_set, ↓ps_n, ↓ps_l, ↓ps_s, ↓z_unp, ↓us_n, ↓z_app, ↓as_n, ↓as_l, ↓zz_for, ↓ws_T, ↓ws_F, ↓ws_S, ↓ws_Z, ↓z_for1, ↓z_for2, ↓y_ret, ↓re_n, ↓re_f, ↓re_v, ↓re_c, ↓ob_0, ↓ob_s, ↓x_expr, ↓x_ret0, ↓z_if, ↓if_b, ↓x_brk, ↓x_cnt, ↓x_pass, ↓x_nil, ↓z_cons, ↓x_aug, ↓aug_0, ↓aug_s, ↓toI_k, ↓zs_nx, ↓zs_rt, ↓zs_bk, ↓zs_ct, ↓zf_nil, ↓zf_cons, ↓zk_nx, ↓zk_ct, ↓zk_bk, ↓zk_rt, ↓z_whl, ↓zw_nx, ↓zw_ct, ↓zw_bk, ↓zw_rt, ↓getK_0, ↓getK_s, ↓setK_0, ↓setK_s, ↓setsK_0, ↓setsK_s, ↓ownK_0, ↓ownK_s, ↓llow_0, ↓llow_n, ↓llow_s, ↓un_var, ↓un_con, ↓un_bin, ↓un_cmp, ↓un_idx, ↓un_slc, ↓un_ite, ↓un_call, ↓un_blt, ↓un_tup, ↓un_lst, ↓un_nil, ↓un_cons, ↓rt_n, ↓rt_f, ↓rt_t, ↓rt_nx, ↓ok_bi, ↓reduceIte, List.map_cons, List.map_nil, List.cons_append, List.nil_append, List.replicate, ↓o_pq, ↓o_p10, ↓o_p20, ↓o_p30, ↓o_p38, ↓o_p39, ↓o_p40, ↓o_p59, ↓o_p60, ↓o_p64, sl, List.length_cons, List.length_nil, decide_true, decide_false, Bool.false_eq_true, Bool.not_true, Bool.not_false, decide_eq_true_eq, Int.reduceEq, Int.reduceNe, Int.reduceLT, Int.reduceLE, Int.reduceNeg, Int.reduceAdd, Int.reduceSub, Int.reduceMul, Nat.reduceAdd, Nat.reduceLeDiff, Nat.reduceSub, Nat.reduceMul, Int.reduceToNat, Int.cast_ofNat_Int, wipeV, bind_as, List.set, c1, c2, List.length_map]
        · rw [show p k = false from decide_eq_false (by omega)]
          simp (maxSteps := 10000000) (disch := omega) only [↓r_var, ↓r_cI, ↓r_cB, ↓r_cN, ↓r_cS, ↓r_bin, ↓r_neg, ↓r_not, ↓r_cmp, ↓z_chn, ↓ch_b, ↓z_and, ↓an_b, ↓z_or, ↓or_b, ↓z_ite, ↓it_b, ↓r_tup, ↓r_lst, ↓r_idx, ↓r_slc, ↓r_call, ↓r_blt, ↓r_isi, ↓y_comp, ↓o_add, ↓o_sub, ↓o_neg, ↓o_mul, ↓o_modP, ↓o_fdivP, ↓o_lt, ↓o_le, ↓o_gt, ↓o_ge, ↓o_eq, ↓o_ne, ↓o_eqB, ↓o_neB, ↓o_isB, ↓o_isNotB, ↓o_isN, ↓o_isNotN, ↓o_ix0, ↓o_ix1, ↓o_ix2, ↓o_lx0, ↓o_lx1, ↓o_lx2, ↓o_lx3, ↓o_lenT, ↓o_lenL, ↓o_lenF, ↓o_listL, ↓o_listT, ↓o_listF, ↓o_tupL, ↓o_abs, ↓o_intI, ↓o_intB, ↓o_isiII, ↓o_isiBB, ↓o_isiTT, ↓o_isiLL, ↓o_ltP, ↓o_leP, ↓o_mnP2, ↓o_mxP2, ↓o_eqS, ↓o_k8, ↓o_k7, ↓o_eqP, ↓o_neP, ↓o_in2, ↓o_in3, ↓bu_f, ↓bu_t, ↓o_f1, ↓o_f2, ↓o_f3, ↓o_t1, ↓o_t2, ↓o_srtI, ↓o_srtP, ↓o_srtS, ↓o_srtT, ↓o_mn2, ↓o_mx2, ↓o_inP, ↓o_niP, ↓o_e00, ↓o_n00, ↓o_eq0, ↓o_ne0, ↓o_eqL, ↓o_neL, ↓r_nil, ↓r_cons, ↓r_tru, ↓i_val_, ↓i_T, ↓i_L, ↓i_F, ↓i_rng1_, ↓i_rng2_, ↓u_2, ↓u_3, ↓u_4, ↓u_l2, ↓u_l3, ↓u_l4, ↓u_n2, ↓u_n3, ↓u_n4, ↓u_nl2, ↓u_nl3, ↓u_nl4, ↓b_nm, ↓b_tp, ↓bw_nm, ↓bw_tp, ↓wip_0, ↓wip_s, ↓clk_0, ↓clk_s, ↓c_cons, ↓c_end, ↓z_set, ↓ps_n, ↓ps_l, ↓ps_s, ↓z_unp, ↓us_n, ↓z_app, ↓as_n, ↓as_l, ↓zz_for, ↓ws_T, ↓ws_F, ↓ws_S, ↓ws_Z, ↓z_for1, ↓z_for2, ↓y_ret, ↓re_n, ↓re_f, ↓re_v, ↓re_c, ↓ob_0, ↓ob_s, ↓x_expr, ↓x_ret0, ↓z_if, ↓if_b, ↓x_brk, ↓x_cnt, ↓x_pass, ↓x_nil, ↓z_cons, ↓x_aug, ↓aug_0, ↓aug_s, ↓toI_k, ↓zs_nx, ↓zs_rt, ↓zs_bk, ↓zs_ct, ↓zf_nil, ↓zf_cons, ↓zk_nx, ↓zk_ct, ↓zk_bk, ↓zk_rt, ↓z_whl, ↓zw_nx, ↓zw_ct, ↓zw_bk, ↓zw_rt, ↓getK_0, ↓getK_s, ↓setK_0, ↓setK_s, ↓setsK_0, ↓setsK_s, ↓ownK_0, ↓ownK_s, ↓llow_0, ↓llow_n, ↓llow_s, ↓un_var, ↓un_con, ↓un_bin, ↓un_cmp, ↓un_idx, ↓un_slc, ↓un_ite, ↓un_call, ↓un_blt, ↓un_tup, ↓un_lst, ↓un_nil, ↓un_cons, ↓rt_n, ↓rt_f, ↓rt_t, ↓rt_nx, ↓ok_bi, ↓reduceIte, List.map_cons, List.map_nil, List.cons_append, List.nil_append, List.replicate, ↓o_pq, ↓o_p10, ↓o_p20, ↓o_p30, ↓o_p38, ↓o_p39, ↓o_p40, ↓o_p59, ↓o_p60, ↓o_p64, sl, List.length_cons, List.length_nil, decide_true, decide_false, Bool.false_eq_true, Bool.not_true, Bool.not_false, decide_eq_true_eq, Int.reduceEq, Int.reduceNe, Int.reduceLT, Int.reduceLE, Int.reduceNeg, Int.reduceAdd, Int.reduceSub, Int.reduceMul, Nat.reduceAdd, Nat.reduceLeDiff, Nat.reduceSub, Nat.reduceMul, Int.reduceToNat, Int.cast_ofNat_Int, wipeV, bind_as, List.set, c1, c2, List.length_map]
      · rw [show p k = false from decide_eq_false (by omega)]
        simp (maxSteps := 10000000) (disch := omega) only [↓r_var, ↓r_cI, ↓r_cB, ↓r_cN, ↓r_cS, ↓r_bin, ↓r_neg, ↓r_not, ↓r_cmp, ↓z_chn, ↓ch_b, ↓z_and, ↓an_b, ↓z_or, ↓or_b, ↓z_ite, ↓it_b, ↓r_tup, ↓r_lst, ↓r_idx, ↓r_slc, ↓r_call, ↓r_blt, ↓r_isi, ↓y_comp, ↓o_add, ↓o_sub, ↓o_neg, ↓o_mul, ↓o_modP, ↓o_fdivP, ↓o_lt, ↓o_le, ↓o_gt, ↓o_ge, ↓o_eq, ↓o_ne, ↓o_eqB, ↓o_neB, ↓o_isB, ↓o_isNotB, ↓o_isN, ↓o_isNotN, ↓o_ix0, ↓o_ix1, ↓o_ix2, ↓o_lx0, ↓o_lx1, ↓o_lx2, ↓o_lx3, ↓o_lenT, ↓o_lenL, ↓o_lenF, ↓o_listL, ↓o_listT, ↓o_listF, ↓o_tupL, ↓o_abs, ↓o_intI, ↓o_intB, ↓o_isiII, ↓o_isiBB, ↓o_isiTT, ↓o_isiLL, ↓o_ltP, ↓o_leP, ↓o_mnP2, ↓o_mxP2, ↓o_eqS, ↓o_k8, ↓o_k7, ↓o_eqP, ↓o_neP, ↓o_in2, ↓o_in3, ↓bu_f, ↓bu_t, ↓o_f1, ↓o_f2, ↓o_f3, ↓o_t1, ↓o_t2, ↓o_srtI, ↓o_srtP, ↓o_srtS, ↓o_srtT, ↓o_mn2, ↓o_mx2, ↓o_inP, ↓o_niP, ↓o_e00, ↓o_n00, ↓o_eq0, ↓o_ne0, ↓o_eqL, ↓o_neL, ↓r_nil, ↓r_cons, ↓r_tru, ↓i_val_, ↓i_T, ↓i_L, ↓i_F, ↓i_rng1_, ↓i_rng2_, ↓u_2, ↓u_3, ↓u_4, ↓u_l2, ↓u_l3, ↓u_l4, ↓u_n2, ↓u_n3, ↓u_n4, ↓u_nl2, ↓u_nl3, ↓u_nl4, ↓b_nm, ↓b_tp, ↓bw_nm, ↓bw_tp, ↓wip_0, ↓wip_s, ↓clk_0, ↓clk_s, ↓c_cons, ↓c_end, ↓z_set, ↓ps_n, ↓ps_l, ↓ps_s, ↓z_unp, ↓us_n, ↓z_app, ↓as_n, ↓as_l, ↓zz_for, ↓ws_T, ↓ws_F, ↓ws_S, ↓ws_Z, ↓z_for1, ↓z_for2, ↓y_ret, ↓re_n, ↓re_f, ↓re_v, ↓re_c, ↓ob_0, ↓ob_s, ↓x_expr, ↓x_ret0, ↓z_if, ↓if_b, ↓x_brk, ↓x_cnt, ↓x_pass, ↓x_nil, ↓z_cons, ↓x_aug, ↓aug_0, ↓aug_s, ↓toI_k, ↓zs_nx, ↓zs_rt, ↓zs_bk, ↓zs_ct, ↓zf_nil, ↓zf_cons, ↓zk_nx, ↓zk_ct, ↓zk_bk, ↓zk_rt, ↓z_whl, ↓zw_nx, ↓zw_ct, ↓zw_bk, ↓zw_rt, ↓getK_0, ↓getK_s, ↓setK_0, ↓setK_s, ↓setsK_0, ↓setsK_s, ↓ownK_0, ↓ownK_s, ↓llow_0, ↓llow_n, ↓llow_s, ↓un_var, ↓un_con, ↓un_bin, ↓un_cmp, ↓un_idx, ↓un_slc, ↓un_ite, ↓un_call, ↓un_blt, ↓un_tup, ↓un_lst, ↓un_nil, ↓un_cons, ↓rt_n, ↓rt_f, ↓rt_t, ↓rt_nx, ↓ok_bi, ↓reduceIte, List.map_cons, List.map_nil, List.cons_append, List.nil_append, List.replicate, ↓o_pq, ↓o_p10, ↓o_p20, ↓o_p30, ↓o_p38, ↓o_p39, ↓o_p40, ↓o_p59, ↓o_p60, ↓o_p64, sl, List.length_cons, List.length_nil, decide_true, decide_false, Bool.false_eq_true, Bool.not_true, Bool.not_false, decide_eq_true_eq, Int.reduceEq, Int.reduceNe, Int.reduceLT, Int.reduceLE, Int.reduceNeg, Int.reduceAdd, Int.reduceSub, Int.reduceMul, Nat.reduceAdd, Nat.reduceLeDiff, Nat.reduceSub, Nat.reduceMul, Int.reduceToNat, Int.cast_ofNat_Int, wipeV, bind_as, List.set, c1, List.length_map]
    · have hp := of_decide_eq_true hp
      have i1 : ∀ {β : Type} {q : U → VR β}, (ixU (.lst (R.map ptU)) (.int ((0 + (k : Int)) % 5))).bind q = q (ptU (g k).1) := fun {β q} => o_ixL (by
        rw [at_getD (0, 0) (by omega) (by omega), show ((0 + (k : Int)) % 5).toNat = k % 5 by omega])
      have i2 : ∀ {β : Type} {q : U → VR β}, (ixU (.lst (R.map ptU)) (.int ((0 + (k : Int)) / 5))).bind q = q (ptU (g k).2) := fun {β q} => o_ixL (by
        rw [at_getD (0, 0) (by omega) (by omega), show ((0 + (k : Int)) / 5).toNat = k / 5 by omega])
      rw [← bind_id (evV _ _ _)]
      simp (maxSteps := 10000000) (disch := omega) only [↓r_var, ↓r_cI, ↓r_cB, ↓r_cN, ↓r_cS, ↓r_bin, ↓r_neg, ↓r_not, ↓r_cmp, ↓z_chn, ↓ch_b, ↓z_and, ↓an_b, ↓z_or, ↓or_b, ↓z_ite, ↓it_b, ↓r_tup, ↓r_lst, ↓r_idx, ↓r_slc, ↓r_call, ↓r_blt, ↓r_isi, ↓y_comp, ↓o_add, ↓o_sub, ↓o_neg, ↓o_mul, ↓o_modP, ↓o_fdivP, ↓o_lt, ↓o_le, ↓o_gt, ↓o_ge, ↓o_eq, ↓o_ne, ↓o_eqB, ↓o_neB, ↓o_isB, ↓o_isNotB, ↓o_isN, ↓o_isNotN, ↓o_ix0, ↓o_ix1, ↓o_ix2, ↓o_lx0, ↓o_lx1, ↓o_lx2, ↓o_lx3, ↓o_lenT, ↓o_lenL, ↓o_lenF, ↓o_listL, ↓o_listT, ↓o_listF, ↓o_tupL, ↓o_abs, ↓o_intI, ↓o_intB, ↓o_isiII, ↓o_isiBB, ↓o_isiTT, ↓o_isiLL, ↓o_ltP, ↓o_leP, ↓o_mnP2, ↓o_mxP2, ↓o_eqS, ↓o_k8, ↓o_k7, ↓o_eqP, ↓o_neP, ↓o_in2, ↓o_in3, ↓bu_f, ↓bu_t, ↓o_f1, ↓o_f2, ↓o_f3, ↓o_t1, ↓o_t2, ↓o_srtI, ↓o_srtP, ↓o_srtS, ↓o_srtT, ↓o_mn2, ↓o_mx2, ↓o_inP, ↓o_niP, ↓o_e00, ↓o_n00, ↓o_eq0, ↓o_ne0, ↓o_eqL, ↓o_neL, ↓r_nil, ↓r_cons, ↓r_tru, ↓i_val_, ↓i_T, ↓i_L, ↓i_F, ↓i_rng1_, ↓i_rng2_, ↓u_2, ↓u_3, ↓u_4, ↓u_l2, ↓u_l3, ↓u_l4, ↓u_n2, ↓u_n3, ↓u_n4, ↓u_nl2, ↓u_nl3, ↓u_nl4, ↓b_nm, ↓b_tp, ↓bw_nm, ↓bw_tp, ↓wip_0, ↓wip_s, ↓clk_0, ↓clk_s, ↓c_cons, ↓c_end, ↓z_set, ↓ps_n, ↓ps_l, ↓ps_s, ↓z_unp, ↓us_n, ↓z_app, ↓as_n, ↓as_l, ↓zz_for, ↓ws_T, ↓ws_F, ↓ws_S, ↓ws_Z, ↓z_for1, ↓z_for2, ↓y_ret, ↓re_n, ↓re_f, ↓re_v, ↓re_c, ↓ob_0, ↓ob_s, ↓x_expr, ↓x_ret0, ↓z_if, ↓if_b, ↓x_brk, ↓x_cnt, ↓x_pass, ↓x_nil, ↓z_cons, ↓x_aug, ↓aug_0, ↓aug_s, ↓toI_k, ↓zs_nx, ↓zs_rt, ↓zs_bk, ↓zs_ct, ↓zf_nil, ↓zf_cons, ↓zk_nx, ↓zk_ct, ↓zk_bk, ↓zk_rt, ↓z_whl, ↓zw_nx, ↓zw_ct, ↓zw_bk, ↓zw_rt, ↓getK_0, ↓getK_s, ↓setK_0, ↓setK_s, ↓setsK_0, ↓setsK_s, ↓ownK_0, ↓ownK_s, ↓llow_0, ↓llow_n, ↓llow_s, ↓un_var, ↓un_con, ↓un_bin, ↓un_cmp, ↓un_idx, ↓un_slc, ↓un_ite, ↓un_call, ↓un_blt, ↓un_tup, ↓un_lst, ↓un_nil, ↓un_cons, ↓rt_n, ↓rt_f, ↓rt_t, ↓rt_nx, ↓ok_bi, ↓reduceIte, List.map_cons, List.map_nil, List.cons_append, List.nil_append, List.replicate, ↓o_pq, ↓o_p10, ↓o_p20, ↓o_p30, ↓o_p38, ↓o_p39, ↓o_p40, ↓o_p59, ↓o_p60, ↓o_p64, sl, List.length_cons, List.length_nil, decide_true, decide_false, Bool.false_eq_true, Bool.not_true, Bool.not_false, decide_eq_true_eq, Int.reduceEq, Int.reduceNe, Int.reduceLT, Int.reduceLE, Int.reduceNeg, Int.reduceAdd, Int.reduceSub, Int.reduceMul, Nat.reduceAdd, Nat.reduceLeDiff, Nat.reduceSub, Nat.reduceMul, Int.reduceToNat, Int.cast_ofNat_Int, wipeV, bind_as, List.set, ↓i1, ↓i2]
  clear eL at5
  simp (maxSteps := 10000000) (disch := omega) only [↓r_var, ↓r_cI, ↓r_cB, ↓r_cN, ↓r_cS, ↓r_bin, ↓r_neg, ↓r_not, ↓r_cmp, ↓z_chn, ↓ch_b, ↓z_and, ↓an_b, ↓z_or, ↓or_b, ↓z_ite, ↓it_b, ↓r_tup, ↓r_lst, ↓r_idx, ↓r_slc, ↓r_call, ↓r_blt, ↓r_isi, ↓y_comp, ↓o_add, ↓o_sub, ↓o_neg, ↓o_mul, ↓o_modP, ↓o_fdivP, ↓o_lt, ↓o_le, ↓o_gt, ↓o_ge, ↓o_eq, ↓o_ne, ↓o_eqB, ↓o_neB, ↓o_isB, ↓o_isNotB, ↓o_isN, ↓o_isNotN, ↓o_ix0, ↓o_ix1, ↓o_ix2, ↓o_lx0, ↓o_lx1, ↓o_lx2, ↓o_lx3, ↓o_lenT, ↓o_lenL, ↓o_lenF, ↓o_listL, ↓o_listT, ↓o_listF, ↓o_tupL, ↓o_abs, ↓o_intI, ↓o_intB, ↓o_isiII, ↓o_isiBB, ↓o_isiTT, ↓o_isiLL, ↓o_ltP, ↓o_leP, ↓o_mnP2, ↓o_mxP2, ↓o_eqS, ↓o_k8, ↓o_k7, ↓o_eqP, ↓o_neP, ↓o_in2, ↓o_in3, ↓bu_f, ↓bu_t, ↓o_f1, ↓o_f2, ↓o_f3, ↓o_t1, ↓o_t2, ↓o_srtI, ↓o_srtP, ↓o_srtS, ↓o_srtT, ↓o_mn2, ↓o_mx2, ↓o_inP, ↓o_niP, ↓o_e00, ↓o_n00, ↓o_eq0, ↓o_ne0, ↓o_eqL, ↓o_neL, ↓r_nil, ↓r_cons, ↓r_tru, ↓i_val_, ↓i_T, ↓i_L, ↓i_F, ↓i_rng1_, ↓i_rng2_, ↓u_2, ↓u_3, ↓u_4, ↓u_l2, ↓u_l3, ↓u_l4, ↓u_n2, ↓u_n3, ↓u_n4, ↓u_nl2, ↓u_nl3, ↓u_nl4, ↓b_nm, ↓b_tp, ↓bw_nm, ↓bw_tp, ↓wip_0, ↓wip_s, ↓clk_0, ↓clk_s, ↓z_set, ↓ps_n, ↓ps_l, ↓ps_s, ↓z_unp, ↓us_n, ↓z_app, ↓as_n, ↓as_l, ↓zz_for, ↓ws_T, ↓ws_F, ↓ws_S, ↓ws_Z, ↓z_for1, ↓z_for2, ↓y_ret, ↓re_n, ↓re_f, ↓re_v, ↓re_c, ↓ob_0, ↓ob_s, ↓x_expr, ↓x_ret0, ↓z_if, ↓if_b, ↓x_brk, ↓x_cnt, ↓x_pass, ↓x_nil, ↓z_cons, ↓x_aug, ↓aug_0, ↓aug_s, ↓toI_k, ↓zs_nx, ↓zs_rt, ↓zs_bk, ↓zs_ct, ↓zk_nx, ↓zk_ct, ↓zk_bk, ↓zk_rt, ↓z_whl, ↓zw_nx, ↓zw_ct, ↓zw_bk, ↓zw_rt, ↓getK_0, ↓getK_s, ↓setK_0, ↓setK_s, ↓setsK_0, ↓setsK_s, ↓ownK_0, ↓ownK_s, ↓llow_0, ↓llow_n, ↓llow_s, ↓un_var, ↓un_con, ↓un_bin, ↓un_cmp, ↓un_idx, ↓un_slc, ↓un_ite, ↓un_call, ↓un_blt, ↓un_tup, ↓un_lst, ↓un_nil, ↓un_cons, ↓rt_n, ↓rt_f, ↓rt_t, ↓rt_nx, ↓ok_bi, ↓reduceIte, List.map_cons, List.map_nil, List.cons_append, List.nil_append, List.replicate, ↓o_pq, ↓o_p10, ↓o_p20, ↓o_p30, ↓o_p38, ↓o_p39, ↓o_p40, ↓o_p59, ↓o_p60, ↓o_p64, sl, List.length_cons, List.length_nil, decide_true, decide_false, Bool.false_eq_true, Bool.not_true, Bool.not_false, decide_eq_true_eq, Int.reduceEq, Int.reduceNe, Int.reduceLT, Int.reduceLE, Int.reduceNeg, Int.reduceAdd, Int.reduceSub, Int.reduceMul, Nat.reduceAdd, Nat.reduceLeDiff, Nat.reduceSub, Nat.reduceMul, Int.reduceToNat, Int.cast_ofNat_Int]
  have inner : ∀ x ∈ L, ∀ o10 o11 o7 : Option (Bool × U), ∃ o7' o11', ∀ {β : Type} {q : VF → VR β}, (forS F (callV T F 19) (.nm 7) (.cons (.set 11 (.call 4 (.cons (.var 4) (.cons (.var 7) .nil)))) (.cons (.ifs (.or (.not (.isi (.var 11) .bool)) (.cmp .ne (.var 11) (.call 9 (.cons (.var 4) (.cons (.var 7) .nil))))) (.cons (.ret (.con (.bl false))) .nil) .nil) .nil)) (L.map sdU) [some (false, scr ns), some (true, .lst (ps.map ptU)), some (true, .lst (R.map ptU)), some (false, .lst (L.map sdU)), some (false, sdU x), o5, o6, o7, o8, o9, o10, o11]).bind q = q (.nx [some (false, scr ns), some (true, .lst (ps.map ptU)), some (true, .lst (R.map ptU)), some (false, .lst (L.map sdU)), some (false, sdU x), o5, o6, o7', o8, o9, o10, o11']) := by
    intro x hx o10 o11 o7
    obtain ⟨en', e1, o7', o11', rfl⟩ := fors_ix (f := sdU) (fr := F) (C := callV T F 19) (tg := .nm 7) (b := (.cons (.set 11 (.call 4 (.cons (.var 4) (.cons (.var 7) .nil)))) (.cons (.ifs (.or (.not (.isi (.var 11) .bool)) (.cmp .ne (.var 11) (.call 9 (.cons (.var 4) (.cons (.var 7) .nil))))) (.cons (.ret (.con (.bl false))) .nil) .nil) .nil)))
      (P := fun (s : Nat) (en : VEnv) => ∃ o7 o11, en = [some (false, scr ns), some (true, .lst (ps.map ptU)), some (true, .lst (R.map ptU)), some (false, .lst (L.map sdU)), some (false, sdU x), o5, o6, o7, o8, o9, o10, o11])
      (xs := L) ⟨o7, o11, rfl⟩ (by
        rintro i y hy en ⟨o7, o11, rfl⟩
        obtain ⟨lx1, ⟨_, _⟩, ⟨_, _⟩⟩ := hL x hx
        obtain ⟨lx2, ⟨_, _⟩, ⟨_, _⟩⟩ := hL y (List.mem_of_getElem? hy)
        have k2 : ∀ {β : Type} {q : U → VR β}, _ := fun {β q} => lmeet_k (n := 19) (by omega) lx1 lx2 (q := q)
        refine ⟨_, [some (false, scr ns), some (true, .lst (ps.map ptU)), some (true, .lst (R.map ptU)), some (false, .lst (L.map sdU)), some (false, sdU x), o5, o6, some (false, sdU y), o8, o9, o10, some (false, .bl (decide (meetP (x.1.1, x.1.2) (x.2.1, x.2.2) (y.1.1, y.1.2) (y.2.1, y.2.2))))], rfl, .inl ?_, _, _, rfl⟩
        rw [← bind_id (exVB _ _ _ _)]
        simp (maxSteps := 10000000) (disch := omega) only [↓r_var, ↓r_cI, ↓r_cB, ↓r_cN, ↓r_cS, ↓r_bin, ↓r_neg, ↓r_not, ↓r_cmp, ↓z_chn, ↓ch_b, ↓z_and, ↓an_b, ↓z_or, ↓or_b, ↓z_ite, ↓it_b, ↓r_tup, ↓r_lst, ↓r_idx, ↓r_slc, ↓r_call, ↓r_blt, ↓r_isi, ↓y_comp, ↓o_add, ↓o_sub, ↓o_neg, ↓o_mul, ↓o_modP, ↓o_fdivP, ↓o_lt, ↓o_le, ↓o_gt, ↓o_ge, ↓o_eq, ↓o_ne, ↓o_eqB, ↓o_neB, ↓o_isB, ↓o_isNotB, ↓o_isN, ↓o_isNotN, ↓o_ix0, ↓o_ix1, ↓o_ix2, ↓o_lx0, ↓o_lx1, ↓o_lx2, ↓o_lx3, ↓o_lenT, ↓o_lenL, ↓o_lenF, ↓o_listL, ↓o_listT, ↓o_listF, ↓o_tupL, ↓o_abs, ↓o_intI, ↓o_intB, ↓o_isiII, ↓o_isiBB, ↓o_isiTT, ↓o_isiLL, ↓o_ltP, ↓o_leP, ↓o_mnP2, ↓o_mxP2, ↓o_eqS, ↓o_k8, ↓o_k7, ↓o_eqP, ↓o_neP, ↓o_in2, ↓o_in3, ↓bu_f, ↓bu_t, ↓o_f1, ↓o_f2, ↓o_f3, ↓o_t1, ↓o_t2, ↓o_srtI, ↓o_srtP, ↓o_srtS, ↓o_srtT, ↓o_mn2, ↓o_mx2, ↓o_inP, ↓o_niP, ↓o_e00, ↓o_n00, ↓o_eq0, ↓o_ne0, ↓o_eqL, ↓o_neL, ↓r_nil, ↓r_cons, ↓r_tru, ↓i_val_, ↓i_T, ↓i_L, ↓i_F, ↓i_rng1_, ↓i_rng2_, ↓u_2, ↓u_3, ↓u_4, ↓u_l2, ↓u_l3, ↓u_l4, ↓u_n2, ↓u_n3, ↓u_n4, ↓u_nl2, ↓u_nl3, ↓u_nl4, ↓b_nm, ↓b_tp, ↓bw_nm, ↓bw_tp, ↓wip_0, ↓wip_s, ↓clk_0, ↓clk_s, ↓c_cons, ↓c_end, ↓z_set, ↓ps_n, ↓ps_l, ↓ps_s, ↓z_unp, ↓us_n, ↓z_app, ↓as_n, ↓as_l, ↓zz_for, ↓ws_T, ↓ws_F, ↓ws_S, ↓ws_Z, ↓z_for1, ↓z_for2, ↓y_ret, ↓re_n, ↓re_f, ↓re_v, ↓re_c, ↓ob_0, ↓ob_s, ↓x_expr, ↓x_ret0, ↓z_if, ↓if_b, ↓x_brk, ↓x_cnt, ↓x_pass, ↓x_nil, ↓z_cons, ↓x_aug, ↓aug_0, ↓aug_s, ↓toI_k, ↓zs_nx, ↓zs_rt, ↓zs_bk, ↓zs_ct, ↓zf_nil, ↓zf_cons, ↓zk_nx, ↓zk_ct, ↓zk_bk, ↓zk_rt, ↓z_whl, ↓zw_nx, ↓zw_ct, ↓zw_bk, ↓zw_rt, ↓getK_0, ↓getK_s, ↓setK_0, ↓setK_s, ↓setsK_0, ↓setsK_s, ↓ownK_0, ↓ownK_s, ↓llow_0, ↓llow_n, ↓llow_s, ↓un_var, ↓un_con, ↓un_bin, ↓un_cmp, ↓un_idx, ↓un_slc, ↓un_ite, ↓un_call, ↓un_blt, ↓un_tup, ↓un_lst, ↓un_nil, ↓un_cons, ↓rt_n, ↓rt_f, ↓rt_t, ↓rt_nx, ↓ok_bi, ↓reduceIte, List.map_cons, List.map_nil, List.cons_append, List.nil_append, List.replicate, ↓o_pq, ↓o_p10, ↓o_p20, ↓o_p30, ↓o_p38, ↓o_p39, ↓o_p40, ↓o_p59, ↓o_p60, ↓o_p64, sl, List.length_cons, List.length_nil, decide_true, decide_false, Bool.false_eq_true, Bool.not_true, Bool.not_false, decide_eq_true_eq, Int.reduceEq, Int.reduceNe, Int.reduceLT, Int.reduceLE, Int.reduceNeg, Int.reduceAdd, Int.reduceSub, Int.reduceMul, Nat.reduceAdd, Nat.reduceLeDiff, Nat.reduceSub, Nat.reduceMul, Int.reduceToNat, Int.cast_ofNat_Int, List.set, ↓meets_k, ↓k2, beq_self_eq_true])
    exact ⟨o7', o11', fun {β q} => bi_of e1⟩
  obtain ⟨en1, e1, o4, o7, o10, o11, rfl⟩ := fors_ix (f := sdU) (fr := F) (C := callV T F 19) (tg := .nm 4) (b := (.cons (.for_ (.nm 7) (.val (.var 3)) (.cons (.set 11 (.call 4 (.cons (.var 4) (.cons (.var 7) .nil)))) (.cons (.ifs (.or (.not (.isi (.var 11) .bool)) (.cmp .ne (.var 11) (.call 9 (.cons (.var 4) (.cons (.var 7) .nil))))) (.cons (.ret (.con (.bl false))) .nil) .nil) .nil))) .nil))
    (P := fun (s : Nat) (en : VEnv) => ∃ o4 o7 o10 o11, en = [some (false, scr ns), some (true, .lst (ps.map ptU)), some (true, .lst (R.map ptU)), some (false, .lst (L.map sdU)), o4, o5, o6, o7, o8, o9, o10, o11])
    (xs := L) (en := [some (false, scr ns), some (true, .lst (ps.map ptU)), some (true, .lst (R.map ptU)), some (false, .lst (L.map sdU)), none, o5, o6, none, o8, o9, none, none]) ⟨_, _, _, _, rfl⟩ (by
      rintro i x hx en ⟨o4, o7, o10, o11, rfl⟩
      have hx := List.mem_of_getElem? hx
      obtain ⟨o7', o11', hi⟩ := inner x hx o10 o11 o7
      refine ⟨_, [some (false, scr ns), some (true, .lst (ps.map ptU)), some (true, .lst (R.map ptU)), some (false, .lst (L.map sdU)), some (false, sdU x), o5, o6, o7', o8, o9, o10, o11'], rfl, .inl ?_, _, _, _, _, rfl⟩
      rw [← bind_id (exVB _ _ _ _)]
      simp (maxSteps := 10000000) (disch := omega) only [↓r_var, ↓r_cI, ↓r_cB, ↓r_cN, ↓r_cS, ↓r_bin, ↓r_neg, ↓r_not, ↓r_cmp, ↓z_chn, ↓ch_b, ↓z_and, ↓an_b, ↓z_or, ↓or_b, ↓z_ite, ↓it_b, ↓r_tup, ↓r_lst, ↓r_idx, ↓r_slc, ↓r_call, ↓r_blt, ↓r_isi, ↓y_comp, ↓o_add, ↓o_sub, ↓o_neg, ↓o_mul, ↓o_modP, ↓o_fdivP, ↓o_lt, ↓o_le, ↓o_gt, ↓o_ge, ↓o_eq, ↓o_ne, ↓o_eqB, ↓o_neB, ↓o_isB, ↓o_isNotB, ↓o_isN, ↓o_isNotN, ↓o_ix0, ↓o_ix1, ↓o_ix2, ↓o_lx0, ↓o_lx1, ↓o_lx2, ↓o_lx3, ↓o_lenT, ↓o_lenL, ↓o_lenF, ↓o_listL, ↓o_listT, ↓o_listF, ↓o_tupL, ↓o_abs, ↓o_intI, ↓o_intB, ↓o_isiII, ↓o_isiBB, ↓o_isiTT, ↓o_isiLL, ↓o_ltP, ↓o_leP, ↓o_mnP2, ↓o_mxP2, ↓o_eqS, ↓o_k8, ↓o_k7, ↓o_eqP, ↓o_neP, ↓o_in2, ↓o_in3, ↓bu_f, ↓bu_t, ↓o_f1, ↓o_f2, ↓o_f3, ↓o_t1, ↓o_t2, ↓o_srtI, ↓o_srtP, ↓o_srtS, ↓o_srtT, ↓o_mn2, ↓o_mx2, ↓o_inP, ↓o_niP, ↓o_e00, ↓o_n00, ↓o_eq0, ↓o_ne0, ↓o_eqL, ↓o_neL, ↓r_nil, ↓r_cons, ↓r_tru, ↓i_val_, ↓i_T, ↓i_L, ↓i_F, ↓i_rng1_, ↓i_rng2_, ↓u_2, ↓u_3, ↓u_4, ↓u_l2, ↓u_l3, ↓u_l4, ↓u_n2, ↓u_n3, ↓u_n4, ↓u_nl2, ↓u_nl3, ↓u_nl4, ↓b_nm, ↓b_tp, ↓bw_nm, ↓bw_tp, ↓wip_0, ↓wip_s, ↓clk_0, ↓clk_s, ↓z_set, ↓ps_n, ↓ps_l, ↓ps_s, ↓z_unp, ↓us_n, ↓z_app, ↓as_n, ↓as_l, ↓zz_for, ↓ws_T, ↓ws_F, ↓ws_S, ↓ws_Z, ↓z_for1, ↓z_for2, ↓y_ret, ↓re_n, ↓re_f, ↓re_v, ↓re_c, ↓ob_0, ↓ob_s, ↓x_expr, ↓x_ret0, ↓z_if, ↓if_b, ↓x_brk, ↓x_cnt, ↓x_pass, ↓x_nil, ↓z_cons, ↓x_aug, ↓aug_0, ↓aug_s, ↓toI_k, ↓zs_nx, ↓zs_rt, ↓zs_bk, ↓zs_ct, ↓zk_nx, ↓zk_ct, ↓zk_bk, ↓zk_rt, ↓z_whl, ↓zw_nx, ↓zw_ct, ↓zw_bk, ↓zw_rt, ↓getK_0, ↓getK_s, ↓setK_0, ↓setK_s, ↓setsK_0, ↓setsK_s, ↓ownK_0, ↓ownK_s, ↓llow_0, ↓llow_n, ↓llow_s, ↓un_var, ↓un_con, ↓un_bin, ↓un_cmp, ↓un_idx, ↓un_slc, ↓un_ite, ↓un_call, ↓un_blt, ↓un_tup, ↓un_lst, ↓un_nil, ↓un_cons, ↓rt_n, ↓rt_f, ↓rt_t, ↓rt_nx, ↓ok_bi, ↓reduceIte, List.map_cons, List.map_nil, List.cons_append, List.nil_append, List.replicate, ↓o_pq, ↓o_p10, ↓o_p20, ↓o_p30, ↓o_p38, ↓o_p39, ↓o_p40, ↓o_p59, ↓o_p60, ↓o_p64, sl, List.length_cons, List.length_nil, decide_true, decide_false, Bool.false_eq_true, Bool.not_true, Bool.not_false, decide_eq_true_eq, Int.reduceEq, Int.reduceNe, Int.reduceLT, Int.reduceLE, Int.reduceNeg, Int.reduceAdd, Int.reduceSub, Int.reduceMul, Nat.reduceAdd, Nat.reduceLeDiff, Nat.reduceSub, Nat.reduceMul, Int.reduceToNat, Int.cast_ofNat_Int, List.set, ↓hi])
  refine bi_run e1 ?_
  simp (maxSteps := 10000000) (disch := omega) only [↓r_var, ↓r_cI, ↓r_cB, ↓r_cN, ↓r_cS, ↓r_bin, ↓r_neg, ↓r_not, ↓r_cmp, ↓z_chn, ↓ch_b, ↓z_and, ↓an_b, ↓z_or, ↓or_b, ↓z_ite, ↓it_b, ↓r_tup, ↓r_lst, ↓r_idx, ↓r_slc, ↓r_call, ↓r_blt, ↓r_isi, ↓y_comp, ↓o_add, ↓o_sub, ↓o_neg, ↓o_mul, ↓o_modP, ↓o_fdivP, ↓o_lt, ↓o_le, ↓o_gt, ↓o_ge, ↓o_eq, ↓o_ne, ↓o_eqB, ↓o_neB, ↓o_isB, ↓o_isNotB, ↓o_isN, ↓o_isNotN, ↓o_ix0, ↓o_ix1, ↓o_ix2, ↓o_lx0, ↓o_lx1, ↓o_lx2, ↓o_lx3, ↓o_lenT, ↓o_lenL, ↓o_lenF, ↓o_listL, ↓o_listT, ↓o_listF, ↓o_tupL, ↓o_abs, ↓o_intI, ↓o_intB, ↓o_isiII, ↓o_isiBB, ↓o_isiTT, ↓o_isiLL, ↓o_ltP, ↓o_leP, ↓o_mnP2, ↓o_mxP2, ↓o_eqS, ↓o_k8, ↓o_k7, ↓o_eqP, ↓o_neP, ↓o_in2, ↓o_in3, ↓bu_f, ↓bu_t, ↓o_f1, ↓o_f2, ↓o_f3, ↓o_t1, ↓o_t2, ↓o_srtI, ↓o_srtP, ↓o_srtS, ↓o_srtT, ↓o_mn2, ↓o_mx2, ↓o_inP, ↓o_niP, ↓o_e00, ↓o_n00, ↓o_eq0, ↓o_ne0, ↓o_eqL, ↓o_neL, ↓r_nil, ↓r_cons, ↓r_tru, ↓i_val_, ↓i_T, ↓i_L, ↓i_F, ↓i_rng1_, ↓i_rng2_, ↓u_2, ↓u_3, ↓u_4, ↓u_l2, ↓u_l3, ↓u_l4, ↓u_n2, ↓u_n3, ↓u_n4, ↓u_nl2, ↓u_nl3, ↓u_nl4, ↓b_nm, ↓b_tp, ↓bw_nm, ↓bw_tp, ↓wip_0, ↓wip_s, ↓clk_0, ↓clk_s, ↓z_set, ↓ps_n, ↓ps_l, ↓ps_s, ↓z_unp, ↓us_n, ↓z_app, ↓as_n, ↓as_l, ↓zz_for, ↓ws_T, ↓ws_F, ↓ws_S, ↓ws_Z, ↓z_for1, ↓z_for2, ↓y_ret, ↓re_n, ↓re_f, ↓re_v, ↓re_c, ↓ob_0, ↓ob_s, ↓x_expr, ↓x_ret0, ↓z_if, ↓if_b, ↓x_brk, ↓x_cnt, ↓x_pass, ↓x_nil, ↓z_cons, ↓x_aug, ↓aug_0, ↓aug_s, ↓toI_k, ↓zs_nx, ↓zs_rt, ↓zs_bk, ↓zs_ct, ↓zk_nx, ↓zk_ct, ↓zk_bk, ↓zk_rt, ↓z_whl, ↓zw_nx, ↓zw_ct, ↓zw_bk, ↓zw_rt, ↓getK_0, ↓getK_s, ↓setK_0, ↓setK_s, ↓setsK_0, ↓setsK_s, ↓ownK_0, ↓ownK_s, ↓llow_0, ↓llow_n, ↓llow_s, ↓un_var, ↓un_con, ↓un_bin, ↓un_cmp, ↓un_idx, ↓un_slc, ↓un_ite, ↓un_call, ↓un_blt, ↓un_tup, ↓un_lst, ↓un_nil, ↓un_cons, ↓rt_n, ↓rt_f, ↓rt_t, ↓rt_nx, ↓ok_bi, ↓reduceIte, List.map_cons, List.map_nil, List.cons_append, List.nil_append, List.replicate, ↓o_pq, ↓o_p10, ↓o_p20, ↓o_p30, ↓o_p38, ↓o_p39, ↓o_p40, ↓o_p59, ↓o_p60, ↓o_p64, sl, List.length_cons, List.length_nil, decide_true, decide_false, Bool.false_eq_true, Bool.not_true, Bool.not_false, decide_eq_true_eq, Int.reduceEq, Int.reduceNe, Int.reduceLT, Int.reduceLE, Int.reduceNeg, Int.reduceAdd, Int.reduceSub, Int.reduceMul, Nat.reduceAdd, Nat.reduceLeDiff, Nat.reduceSub, Nat.reduceMul, Int.reduceToNat, Int.cast_ofNat_Int]
theorem bits_lt {x : Int} (h : Builtin.Int.intBits x ≤ 1048576) : Sz 1048578 x := by
  refine ⟨?_⟩
  unfold Builtin.Int.intBits at h
  have h1 : x.natAbs < 2 ^ (x.natAbs.log2 + 1) := Nat.lt_log2_self
  split at h
  · rename_i h0
    have : x.natAbs = 0 := by simpa using h0
    rw [this]
    exact Nat.pow_pos (by decide)
  · exact Nat.lt_of_lt_of_le h1 (Nat.pow_le_pow_right (by decide) (by omega))
theorem law_run (ns : List Int) (hb : ∀ z ∈ ns, Builtin.Int.intBits z ≤ 1048576) : callV T F 20 10 [scr ns] = .ok (.bl true) := by
  have hs : ∀ z ∈ ns, Sz 1048578 z := fun z hz => bits_lt (hb z hz)
  rw [call_run false (by omega) (show T 10 = some f10 from rfl) rfl rfl]
  unfold f10
  dsimp only
  rw [z_cons]
  simp (maxSteps := 10000000) (disch := omega) only [↓r_var, ↓r_cI, ↓r_cB, ↓r_cN, ↓r_cS, ↓r_bin, ↓r_neg, ↓r_not, ↓r_cmp, ↓z_chn, ↓ch_b, ↓z_and, ↓an_b, ↓z_or, ↓or_b, ↓z_ite, ↓it_b, ↓r_tup, ↓r_lst, ↓r_idx, ↓r_slc, ↓r_call, ↓r_blt, ↓r_isi, ↓y_comp, ↓o_add, ↓o_sub, ↓o_neg, ↓o_mul, ↓o_modP, ↓o_fdivP, ↓o_lt, ↓o_le, ↓o_gt, ↓o_ge, ↓o_eq, ↓o_ne, ↓o_eqB, ↓o_neB, ↓o_isB, ↓o_isNotB, ↓o_isN, ↓o_isNotN, ↓o_ix0, ↓o_ix1, ↓o_ix2, ↓o_lx0, ↓o_lx1, ↓o_lx2, ↓o_lx3, ↓o_lenT, ↓o_lenL, ↓o_lenF, ↓o_listL, ↓o_listT, ↓o_listF, ↓o_tupL, ↓o_abs, ↓o_intI, ↓o_intB, ↓o_isiII, ↓o_isiBB, ↓o_isiTT, ↓o_isiLL, ↓o_ltP, ↓o_leP, ↓o_mnP2, ↓o_mxP2, ↓o_eqS, ↓o_k8, ↓o_k7, ↓o_eqP, ↓o_neP, ↓o_in2, ↓o_in3, ↓bu_f, ↓bu_t, ↓o_f1, ↓o_f2, ↓o_f3, ↓o_t1, ↓o_t2, ↓o_srtI, ↓o_srtP, ↓o_srtS, ↓o_srtT, ↓o_mn2, ↓o_mx2, ↓o_inP, ↓o_niP, ↓o_e00, ↓o_n00, ↓o_eq0, ↓o_ne0, ↓o_eqL, ↓o_neL, ↓r_nil, ↓r_cons, ↓r_tru, ↓i_val_, ↓i_T, ↓i_L, ↓i_F, ↓i_rng1_, ↓i_rng2_, ↓u_2, ↓u_3, ↓u_4, ↓u_l2, ↓u_l3, ↓u_l4, ↓u_n2, ↓u_n3, ↓u_n4, ↓u_nl2, ↓u_nl3, ↓u_nl4, ↓b_nm, ↓b_tp, ↓bw_nm, ↓bw_tp, ↓wip_0, ↓wip_s, ↓clk_0, ↓clk_s, ↓c_cons, ↓c_end, ↓z_set, ↓ps_n, ↓ps_l, ↓ps_s, ↓z_unp, ↓us_n, ↓z_app, ↓as_n, ↓as_l, ↓zz_for, ↓ws_T, ↓ws_F, ↓ws_S, ↓ws_Z, ↓z_for1, ↓z_for2, ↓y_ret, ↓re_n, ↓re_f, ↓re_v, ↓re_c, ↓ob_0, ↓ob_s, ↓x_expr, ↓x_ret0, ↓z_if, ↓if_b, ↓x_brk, ↓x_cnt, ↓x_pass, ↓x_nil, ↓x_aug, ↓aug_0, ↓aug_s, ↓toI_k, ↓zs_nx, ↓zs_rt, ↓zs_bk, ↓zs_ct, ↓zf_nil, ↓zf_cons, ↓zk_nx, ↓zk_ct, ↓zk_bk, ↓zk_rt, ↓z_whl, ↓zw_nx, ↓zw_ct, ↓zw_bk, ↓zw_rt, ↓getK_0, ↓getK_s, ↓setK_0, ↓setK_s, ↓setsK_0, ↓setsK_s, ↓ownK_0, ↓ownK_s, ↓llow_0, ↓llow_n, ↓llow_s, ↓un_var, ↓un_con, ↓un_bin, ↓un_cmp, ↓un_idx, ↓un_slc, ↓un_ite, ↓un_call, ↓un_blt, ↓un_tup, ↓un_lst, ↓un_nil, ↓un_cons, ↓rt_n, ↓rt_f, ↓rt_t, ↓rt_nx, ↓ok_bi, ↓reduceIte, List.map_cons, List.map_nil, List.cons_append, List.nil_append, List.replicate, ↓o_pq, ↓o_p10, ↓o_p20, ↓o_p30, ↓o_p38, ↓o_p39, ↓o_p40, ↓o_p59, ↓o_p60, ↓o_p64, sl, List.length_cons, List.length_nil, decide_true, decide_false, Bool.false_eq_true, Bool.not_true, Bool.not_false, decide_eq_true_eq, Int.reduceEq, Int.reduceNe, Int.reduceLT, Int.reduceLE, Int.reduceNeg, Int.reduceAdd, Int.reduceSub, Int.reduceMul, Nat.reduceAdd, Nat.reduceLeDiff, Nat.reduceSub, Nat.reduceMul, Int.reduceToNat, Int.cast_ofNat_Int, ↓at_k]
  refine bi_ex (places_ok (by omega) hs (by omega)) ?_
  rintro u ⟨ps, hl, hd, hb, rfl⟩
  have hl5 : ps.length ≤ 4 := by omega
  have up : ∀ p ∈ ps, BdP p := fun p hp => ⟨(hb p hp).1.up (by decide), (hb p hp).2.up (by decide)⟩
  simp (maxSteps := 10000000) (disch := omega) only [↓r_var, ↓r_cI, ↓r_cB, ↓r_cN, ↓r_cS, ↓r_bin, ↓r_neg, ↓r_not, ↓r_cmp, ↓z_chn, ↓ch_b, ↓z_and, ↓an_b, ↓z_or, ↓or_b, ↓z_ite, ↓it_b, ↓r_tup, ↓r_lst, ↓r_idx, ↓r_slc, ↓r_call, ↓r_blt, ↓r_isi, ↓y_comp, ↓o_add, ↓o_sub, ↓o_neg, ↓o_mul, ↓o_modP, ↓o_fdivP, ↓o_lt, ↓o_le, ↓o_gt, ↓o_ge, ↓o_eq, ↓o_ne, ↓o_eqB, ↓o_neB, ↓o_isB, ↓o_isNotB, ↓o_isN, ↓o_isNotN, ↓o_ix0, ↓o_ix1, ↓o_ix2, ↓o_lx0, ↓o_lx1, ↓o_lx2, ↓o_lx3, ↓o_lenT, ↓o_lenL, ↓o_lenF, ↓o_listL, ↓o_listT, ↓o_listF, ↓o_tupL, ↓o_abs, ↓o_intI, ↓o_intB, ↓o_isiII, ↓o_isiBB, ↓o_isiTT, ↓o_isiLL, ↓o_ltP, ↓o_leP, ↓o_mnP2, ↓o_mxP2, ↓o_eqS, ↓o_k8, ↓o_k7, ↓o_eqP, ↓o_neP, ↓o_in2, ↓o_in3, ↓bu_f, ↓bu_t, ↓o_f1, ↓o_f2, ↓o_f3, ↓o_t1, ↓o_t2, ↓o_srtI, ↓o_srtP, ↓o_srtS, ↓o_srtT, ↓o_mn2, ↓o_mx2, ↓o_inP, ↓o_niP, ↓o_e00, ↓o_n00, ↓o_eq0, ↓o_ne0, ↓o_eqL, ↓o_neL, ↓r_nil, ↓r_cons, ↓r_tru, ↓i_val_, ↓i_T, ↓i_L, ↓i_F, ↓i_rng1_, ↓i_rng2_, ↓u_2, ↓u_3, ↓u_4, ↓u_l2, ↓u_l3, ↓u_l4, ↓u_n2, ↓u_n3, ↓u_n4, ↓u_nl2, ↓u_nl3, ↓u_nl4, ↓b_nm, ↓b_tp, ↓bw_nm, ↓bw_tp, ↓wip_0, ↓wip_s, ↓clk_0, ↓clk_s, ↓c_cons, ↓c_end, ↓z_set, ↓ps_n, ↓ps_l, ↓ps_s, ↓z_unp, ↓us_n, ↓z_app, ↓as_n, ↓as_l, ↓zz_for, ↓ws_T, ↓ws_F, ↓ws_S, ↓ws_Z, ↓z_for1, ↓z_for2, ↓y_ret, ↓re_n, ↓re_f, ↓re_v, ↓re_c, ↓ob_0, ↓ob_s, ↓x_expr, ↓x_ret0, ↓z_if, ↓if_b, ↓x_brk, ↓x_cnt, ↓x_pass, ↓x_nil, ↓x_aug, ↓aug_0, ↓aug_s, ↓toI_k, ↓zs_nx, ↓zs_rt, ↓zs_bk, ↓zs_ct, ↓zf_nil, ↓zf_cons, ↓zk_nx, ↓zk_ct, ↓zk_bk, ↓zk_rt, ↓z_whl, ↓zw_nx, ↓zw_ct, ↓zw_bk, ↓zw_rt, ↓getK_0, ↓getK_s, ↓setK_0, ↓setK_s, ↓setsK_0, ↓setsK_s, ↓ownK_0, ↓ownK_s, ↓llow_0, ↓llow_n, ↓llow_s, ↓un_var, ↓un_con, ↓un_bin, ↓un_cmp, ↓un_idx, ↓un_slc, ↓un_ite, ↓un_call, ↓un_blt, ↓un_tup, ↓un_lst, ↓un_nil, ↓un_cons, ↓rt_n, ↓rt_f, ↓rt_t, ↓rt_nx, ↓ok_bi, ↓reduceIte, List.map_cons, List.map_nil, List.cons_append, List.nil_append, List.replicate, ↓o_pq, ↓o_p10, ↓o_p20, ↓o_p30, ↓o_p38, ↓o_p39, ↓o_p40, ↓o_p59, ↓o_p60, ↓o_p64, sl, List.length_cons, List.length_nil, decide_true, decide_false, Bool.false_eq_true, Bool.not_true, Bool.not_false, decide_eq_true_eq, Int.reduceEq, Int.reduceNe, Int.reduceLT, Int.reduceLE, Int.reduceNeg, Int.reduceAdd, Int.reduceSub, Int.reduceMul, Nat.reduceAdd, Nat.reduceLeDiff, Nat.reduceSub, Nat.reduceMul, Int.reduceToNat, Int.cast_ofNat_Int, ↓at_k]
  rw [z_cons]
  have plain : ∀ {o5 o6 o8 o9 : Option (Bool × U)}, (exVB F (callV T F 19) (.cons (.set 2 (.blt .sorted (.cons (.var 1) .nil))) (.cons (.set 3 (.comp [10] (.nm 10) (.rng1 (.con (.int 25))) (.and (.cmp .lt (.bin .mod (.var 10) (.con (.int 5))) (.bin .fdiv (.var 10) (.con (.int 5)))) (.cmp .lt (.bin .fdiv (.var 10) (.con (.int 5))) (.blt .len (.cons (.var 2) .nil)))) (.tup (.cons (.idx (.var 2) (.bin .mod (.var 10) (.con (.int 5)))) (.cons (.idx (.var 2) (.bin .fdiv (.var 10) (.con (.int 5)))) .nil))))) (.cons (.for_ (.nm 4) (.val (.var 3)) (.cons (.for_ (.nm 7) (.val (.var 3)) (.cons (.set 11 (.call 4 (.cons (.var 4) (.cons (.var 7) .nil)))) (.cons (.ifs (.or (.not (.isi (.var 11) .bool)) (.cmp .ne (.var 11) (.call 9 (.cons (.var 4) (.cons (.var 7) .nil))))) (.cons (.ret (.con (.bl false))) .nil) .nil) .nil))) .nil)) (.cons (.ret (.con (.bl true))) .nil)))) [some (false, scr ns), some (true, .lst (ps.map ptU)), none, none, none, o5, o6, none, o8, o9, none, none]).bind (retK false) = .ok (.bl true) := law_tail (w := false) hd up (by omega)
  by_cases c1 : (1 : Int) < (ps.length : Int)
  · by_cases c2 : nth ns 1 / 2 % 2 = 1
    · obtain ⟨a, b, r, rfl⟩ : ∃ a b r, ps = a :: b :: r := by
        match ps, c1 with
        | a :: b :: r, _ => exact ⟨a, b, r, rfl⟩
      obtain ⟨ax, ay⟩ := a
      obtain ⟨bx, by_⟩ := b
      have sax : Sz 200 ax := (hb (ax, ay) (by simp)).1
      have say : Sz 200 ay := (hb (ax, ay) (by simp)).2
      have sbx : Sz 200 bx := (hb (bx, by_) (by simp)).1
      have sby : Sz 200 by_ := (hb (bx, by_) (by simp)).2
      have s8 := snth hs 8
      have sf : Sz 4 (nth ns 8 % 5 - 2) := ⟨by show (nth ns 8 % 5 - 2).natAbs < 16; omega⟩
      have e2 : ((((ax, ay) : Pt) :: (bx, by_) :: r).map ptU).take 2 = [.tup [.int ax, .int ay], .tup [.int bx, .int by_]] := rfl
      have e0 : ((((ax, ay) : Pt) :: (bx, by_) :: r).map ptU).length = r.length + 2 := by simp
      generalize hP : (((ax, ay) : Pt) :: (bx, by_) :: r) = ps at *
      simp (maxSteps := 10000000) (disch := omega) only [↓r_var, ↓r_cI, ↓r_cB, ↓r_cN, ↓r_cS, ↓r_bin, ↓r_neg, ↓r_not, ↓r_cmp, ↓z_chn, ↓ch_b, ↓z_and, ↓an_b, ↓z_or, ↓or_b, ↓z_ite, ↓it_b, ↓r_tup, ↓r_lst, ↓r_idx, ↓r_slc, ↓r_call, ↓r_blt, ↓r_isi, ↓y_comp, ↓o_add, ↓o_sub, ↓o_neg, ↓o_mul, ↓o_modP, ↓o_fdivP, ↓o_lt, ↓o_le, ↓o_gt, ↓o_ge, ↓o_eq, ↓o_ne, ↓o_eqB, ↓o_neB, ↓o_isB, ↓o_isNotB, ↓o_isN, ↓o_isNotN, ↓o_ix0, ↓o_ix1, ↓o_ix2, ↓o_lx0, ↓o_lx1, ↓o_lx2, ↓o_lx3, ↓o_lenT, ↓o_lenL, ↓o_lenF, ↓o_listL, ↓o_listT, ↓o_listF, ↓o_tupL, ↓o_abs, ↓o_intI, ↓o_intB, ↓o_isiII, ↓o_isiBB, ↓o_isiTT, ↓o_isiLL, ↓o_ltP, ↓o_leP, ↓o_mnP2, ↓o_mxP2, ↓o_eqS, ↓o_k8, ↓o_k7, ↓o_eqP, ↓o_neP, ↓o_in2, ↓o_in3, ↓bu_f, ↓bu_t, ↓o_f1, ↓o_f2, ↓o_f3, ↓o_t1, ↓o_t2, ↓o_srtI, ↓o_srtP, ↓o_srtS, ↓o_srtT, ↓o_mn2, ↓o_mx2, ↓o_inP, ↓o_niP, ↓o_e00, ↓o_n00, ↓o_eq0, ↓o_ne0, ↓o_eqL, ↓o_neL, ↓r_nil, ↓r_cons, ↓r_tru, ↓i_val_, ↓i_T, ↓i_L, ↓i_F, ↓i_rng1_, ↓i_rng2_, ↓u_2, ↓u_3, ↓u_4, ↓u_l2, ↓u_l3, ↓u_l4, ↓u_n2, ↓u_n3, ↓u_n4, ↓u_nl2, ↓u_nl3, ↓u_nl4, ↓b_nm, ↓b_tp, ↓bw_nm, ↓bw_tp, ↓wip_0, ↓wip_s, ↓clk_0, ↓clk_s, ↓c_cons, ↓c_end, ↓z_set, ↓ps_n, ↓ps_l, ↓ps_s, ↓z_unp, ↓us_n, ↓z_app, ↓as_n, ↓as_l, ↓zz_for, ↓ws_T, ↓ws_F, ↓ws_S, ↓ws_Z, ↓z_for1, ↓z_for2, ↓y_ret, ↓re_n, ↓re_f, ↓re_v, ↓re_c, ↓ob_0, ↓ob_s, ↓x_expr, ↓x_ret0, ↓z_if, ↓if_b, ↓x_brk, ↓x_cnt, ↓x_pass, ↓x_nil, ↓x_aug, ↓aug_0, ↓aug_s, ↓toI_k, ↓zs_nx, ↓zs_rt, ↓zs_bk, ↓zs_ct, ↓zf_nil, ↓zf_cons, ↓zk_nx, ↓zk_ct, ↓zk_bk, ↓zk_rt, ↓z_whl, ↓zw_nx, ↓zw_ct, ↓zw_bk, ↓zw_rt, ↓getK_0, ↓getK_s, ↓setK_0, ↓setK_s, ↓setsK_0, ↓setsK_s, ↓ownK_0, ↓ownK_s, ↓llow_0, ↓llow_n, ↓llow_s, ↓un_var, ↓un_con, ↓un_bin, ↓un_cmp, ↓un_idx, ↓un_slc, ↓un_ite, ↓un_call, ↓un_blt, ↓un_tup, ↓un_lst, ↓un_nil, ↓un_cons, ↓rt_n, ↓rt_f, ↓rt_t, ↓rt_nx, ↓ok_bi, ↓reduceIte, List.map_cons, List.map_nil, List.cons_append, List.nil_append, List.replicate, ↓o_pq, ↓o_p10, ↓o_p20, ↓o_p30, ↓o_p38, ↓o_p39, ↓o_p40, ↓o_p59, ↓o_p60, ↓o_p64, sl, List.length_cons, List.length_nil, decide_true, decide_false, Bool.false_eq_true, Bool.not_true, Bool.not_false, decide_eq_true_eq, Int.reduceEq, Int.reduceNe, Int.reduceLT, Int.reduceLE, Int.reduceNeg, Int.reduceAdd, Int.reduceSub, Int.reduceMul, Nat.reduceAdd, Nat.reduceLeDiff, Nat.reduceSub, Nat.reduceMul, Int.reduceToNat, Int.cast_ofNat_Int, ↓at_k, List.length_map, c1, c2, e2]
      generalize hfar : nth ns 8 % 5 - 2 = far at sf
      have spx : Sz 1000 (ax + far * (bx - ax)) := (inferInstance : Sz (200 + (4 + (200 + 200 + 1)) + 1) _).up (by decide)
      have spy : Sz 1000 (ay + far * (by_ - ay)) := (inferInstance : Sz (200 + (4 + (200 + 200 + 1)) + 1) _).up (by decide)
      have hsz : (ps.map ptU).length < sizeLine := by
        rw [List.length_map]
        exact small1000 (by omega)
      rw [z_cons]
      simp (maxSteps := 10000000) (disch := omega) only [↓r_var, ↓r_cI, ↓r_cB, ↓r_cN, ↓r_cS, ↓r_bin, ↓r_neg, ↓r_not, ↓r_cmp, ↓z_chn, ↓ch_b, ↓z_and, ↓an_b, ↓z_or, ↓or_b, ↓z_ite, ↓it_b, ↓r_tup, ↓r_lst, ↓r_idx, ↓r_slc, ↓r_call, ↓r_blt, ↓r_isi, ↓y_comp, ↓o_add, ↓o_sub, ↓o_neg, ↓o_mul, ↓o_modP, ↓o_fdivP, ↓o_lt, ↓o_le, ↓o_gt, ↓o_ge, ↓o_eq, ↓o_ne, ↓o_eqB, ↓o_neB, ↓o_isB, ↓o_isNotB, ↓o_isN, ↓o_isNotN, ↓o_ix0, ↓o_ix1, ↓o_ix2, ↓o_lx0, ↓o_lx1, ↓o_lx2, ↓o_lx3, ↓o_lenT, ↓o_lenL, ↓o_lenF, ↓o_listL, ↓o_listT, ↓o_listF, ↓o_tupL, ↓o_abs, ↓o_intI, ↓o_intB, ↓o_isiII, ↓o_isiBB, ↓o_isiTT, ↓o_isiLL, ↓o_ltP, ↓o_leP, ↓o_mnP2, ↓o_mxP2, ↓o_eqS, ↓o_k8, ↓o_k7, ↓o_eqP, ↓o_neP, ↓o_in2, ↓o_in3, ↓bu_f, ↓bu_t, ↓o_f1, ↓o_f2, ↓o_f3, ↓o_t1, ↓o_t2, ↓o_srtI, ↓o_srtP, ↓o_srtS, ↓o_srtT, ↓o_mn2, ↓o_mx2, ↓o_inP, ↓o_niP, ↓o_e00, ↓o_n00, ↓o_eq0, ↓o_ne0, ↓o_eqL, ↓o_neL, ↓r_nil, ↓r_cons, ↓r_tru, ↓i_val_, ↓i_T, ↓i_L, ↓i_F, ↓i_rng1_, ↓i_rng2_, ↓u_2, ↓u_3, ↓u_4, ↓u_l2, ↓u_l3, ↓u_l4, ↓u_n2, ↓u_n3, ↓u_n4, ↓u_nl2, ↓u_nl3, ↓u_nl4, ↓b_nm, ↓b_tp, ↓bw_nm, ↓bw_tp, ↓wip_0, ↓wip_s, ↓clk_0, ↓clk_s, ↓c_cons, ↓c_end, ↓z_set, ↓ps_n, ↓ps_l, ↓ps_s, ↓z_unp, ↓us_n, ↓z_app, ↓as_n, ↓as_l, ↓zz_for, ↓ws_T, ↓ws_F, ↓ws_S, ↓ws_Z, ↓z_for1, ↓z_for2, ↓y_ret, ↓re_n, ↓re_f, ↓re_v, ↓re_c, ↓ob_0, ↓ob_s, ↓x_expr, ↓x_ret0, ↓z_if, ↓if_b, ↓x_brk, ↓x_cnt, ↓x_pass, ↓x_nil, ↓x_aug, ↓aug_0, ↓aug_s, ↓toI_k, ↓zs_nx, ↓zs_rt, ↓zs_bk, ↓zs_ct, ↓zf_nil, ↓zf_cons, ↓zk_nx, ↓zk_ct, ↓zk_bk, ↓zk_rt, ↓z_whl, ↓zw_nx, ↓zw_ct, ↓zw_bk, ↓zw_rt, ↓getK_0, ↓getK_s, ↓setK_0, ↓setK_s, ↓setsK_0, ↓setsK_s, ↓ownK_0, ↓ownK_s, ↓llow_0, ↓llow_n, ↓llow_s, ↓un_var, ↓un_con, ↓un_bin, ↓un_cmp, ↓un_idx, ↓un_slc, ↓un_ite, ↓un_call, ↓un_blt, ↓un_tup, ↓un_lst, ↓un_nil, ↓un_cons, ↓rt_n, ↓rt_f, ↓rt_t, ↓rt_nx, ↓ok_bi, ↓reduceIte, List.map_cons, List.map_nil, List.cons_append, List.nil_append, List.replicate, ↓o_pq, ↓o_p10, ↓o_p20, ↓o_p30, ↓o_p38, ↓o_p39, ↓o_p40, ↓o_p59, ↓o_p60, ↓o_p64, sl, List.length_cons, List.length_nil, decide_true, decide_false, Bool.false_eq_true, Bool.not_true, Bool.not_false, decide_eq_true_eq, Int.reduceEq, Int.reduceNe, Int.reduceLT, Int.reduceLE, Int.reduceNeg, Int.reduceAdd, Int.reduceSub, Int.reduceMul, Nat.reduceAdd, Nat.reduceLeDiff, Nat.reduceSub, Nat.reduceMul, Int.reduceToNat, Int.cast_ofNat_Int, ↓at_k, e2]
      rw [z_cons]
      simp (maxSteps := 10000000) (disch := omega) only [↓r_var, ↓r_cI, ↓r_cB, ↓r_cN, ↓r_cS, ↓r_bin, ↓r_neg, ↓r_not, ↓r_cmp, ↓z_chn, ↓ch_b, ↓z_and, ↓an_b, ↓z_or, ↓or_b, ↓z_ite, ↓it_b, ↓r_tup, ↓r_lst, ↓r_idx, ↓r_slc, ↓r_call, ↓r_blt, ↓r_isi, ↓y_comp, ↓o_add, ↓o_sub, ↓o_neg, ↓o_mul, ↓o_modP, ↓o_fdivP, ↓o_lt, ↓o_le, ↓o_gt, ↓o_ge, ↓o_eq, ↓o_ne, ↓o_eqB, ↓o_neB, ↓o_isB, ↓o_isNotB, ↓o_isN, ↓o_isNotN, ↓o_ix0, ↓o_ix1, ↓o_ix2, ↓o_lx0, ↓o_lx1, ↓o_lx2, ↓o_lx3, ↓o_lenT, ↓o_lenL, ↓o_lenF, ↓o_listL, ↓o_listT, ↓o_listF, ↓o_tupL, ↓o_abs, ↓o_intI, ↓o_intB, ↓o_isiII, ↓o_isiBB, ↓o_isiTT, ↓o_isiLL, ↓o_ltP, ↓o_leP, ↓o_mnP2, ↓o_mxP2, ↓o_eqS, ↓o_k8, ↓o_k7, ↓o_eqP, ↓o_neP, ↓o_in2, ↓o_in3, ↓bu_f, ↓bu_t, ↓o_f1, ↓o_f2, ↓o_f3, ↓o_t1, ↓o_t2, ↓o_srtI, ↓o_srtP, ↓o_srtS, ↓o_srtT, ↓o_mn2, ↓o_mx2, ↓o_inP, ↓o_niP, ↓o_e00, ↓o_n00, ↓o_eq0, ↓o_ne0, ↓o_eqL, ↓o_neL, ↓r_nil, ↓r_cons, ↓r_tru, ↓i_val_, ↓i_T, ↓i_L, ↓i_F, ↓i_rng1_, ↓i_rng2_, ↓u_2, ↓u_3, ↓u_4, ↓u_l2, ↓u_l3, ↓u_l4, ↓u_n2, ↓u_n3, ↓u_n4, ↓u_nl2, ↓u_nl3, ↓u_nl4, ↓b_nm, ↓b_tp, ↓bw_nm, ↓bw_tp, ↓wip_0, ↓wip_s, ↓clk_0, ↓clk_s, ↓c_cons, ↓c_end, ↓z_set, ↓ps_n, ↓ps_l, ↓ps_s, ↓z_unp, ↓us_n, ↓z_app, ↓as_n, ↓as_l, ↓zz_for, ↓ws_T, ↓ws_F, ↓ws_S, ↓ws_Z, ↓z_for1, ↓z_for2, ↓y_ret, ↓re_n, ↓re_f, ↓re_v, ↓re_c, ↓ob_0, ↓ob_s, ↓x_expr, ↓x_ret0, ↓z_if, ↓if_b, ↓x_brk, ↓x_cnt, ↓x_pass, ↓x_nil, ↓x_aug, ↓aug_0, ↓aug_s, ↓toI_k, ↓zs_nx, ↓zs_rt, ↓zs_bk, ↓zs_ct, ↓zf_nil, ↓zf_cons, ↓zk_nx, ↓zk_ct, ↓zk_bk, ↓zk_rt, ↓z_whl, ↓zw_nx, ↓zw_ct, ↓zw_bk, ↓zw_rt, ↓getK_0, ↓getK_s, ↓setK_0, ↓setK_s, ↓setsK_0, ↓setsK_s, ↓ownK_0, ↓ownK_s, ↓llow_0, ↓llow_n, ↓llow_s, ↓un_var, ↓un_con, ↓un_bin, ↓un_cmp, ↓un_idx, ↓un_slc, ↓un_ite, ↓un_call, ↓un_blt, ↓un_tup, ↓un_lst, ↓un_nil, ↓un_cons, ↓rt_n, ↓rt_f, ↓rt_t, ↓rt_nx, ↓ok_bi, ↓reduceIte, List.map_cons, List.map_nil, List.cons_append, List.nil_append, List.replicate, ↓o_pq, ↓o_p10, ↓o_p20, ↓o_p30, ↓o_p38, ↓o_p39, ↓o_p40, ↓o_p59, ↓o_p60, ↓o_p64, sl, List.length_cons, List.length_nil, decide_true, decide_false, Bool.false_eq_true, Bool.not_true, Bool.not_false, decide_eq_true_eq, Int.reduceEq, Int.reduceNe, Int.reduceLT, Int.reduceLE, Int.reduceNeg, Int.reduceAdd, Int.reduceSub, Int.reduceMul, Nat.reduceAdd, Nat.reduceLeDiff, Nat.reduceSub, Nat.reduceMul, Int.reduceToNat, Int.cast_ofNat_Int, ↓at_k, hfar]
      rw [z_cons]
      simp (maxSteps := 10000000) (disch := omega) only [↓r_var, ↓r_cI, ↓r_cB, ↓r_cN, ↓r_cS, ↓r_bin, ↓r_neg, ↓r_not, ↓r_cmp, ↓z_chn, ↓ch_b, ↓z_and, ↓an_b, ↓z_or, ↓or_b, ↓z_ite, ↓it_b, ↓r_tup, ↓r_lst, ↓r_idx, ↓r_slc, ↓r_call, ↓r_blt, ↓r_isi, ↓y_comp, ↓o_add, ↓o_sub, ↓o_neg, ↓o_mul, ↓o_modP, ↓o_fdivP, ↓o_lt, ↓o_le, ↓o_gt, ↓o_ge, ↓o_eq, ↓o_ne, ↓o_eqB, ↓o_neB, ↓o_isB, ↓o_isNotB, ↓o_isN, ↓o_isNotN, ↓o_ix0, ↓o_ix1, ↓o_ix2, ↓o_lx0, ↓o_lx1, ↓o_lx2, ↓o_lx3, ↓o_lenT, ↓o_lenL, ↓o_lenF, ↓o_listL, ↓o_listT, ↓o_listF, ↓o_tupL, ↓o_abs, ↓o_intI, ↓o_intB, ↓o_isiII, ↓o_isiBB, ↓o_isiTT, ↓o_isiLL, ↓o_ltP, ↓o_leP, ↓o_mnP2, ↓o_mxP2, ↓o_eqS, ↓o_k8, ↓o_k7, ↓o_eqP, ↓o_neP, ↓o_in2, ↓o_in3, ↓bu_f, ↓bu_t, ↓o_f1, ↓o_f2, ↓o_f3, ↓o_t1, ↓o_t2, ↓o_srtI, ↓o_srtP, ↓o_srtS, ↓o_srtT, ↓o_mn2, ↓o_mx2, ↓o_inP, ↓o_niP, ↓o_e00, ↓o_n00, ↓o_eq0, ↓o_ne0, ↓o_eqL, ↓o_neL, ↓r_nil, ↓r_cons, ↓r_tru, ↓i_val_, ↓i_T, ↓i_L, ↓i_F, ↓i_rng1_, ↓i_rng2_, ↓u_2, ↓u_3, ↓u_4, ↓u_l2, ↓u_l3, ↓u_l4, ↓u_n2, ↓u_n3, ↓u_n4, ↓u_nl2, ↓u_nl3, ↓u_nl4, ↓b_nm, ↓b_tp, ↓bw_nm, ↓bw_tp, ↓wip_0, ↓wip_s, ↓clk_0, ↓clk_s, ↓c_cons, ↓c_end, ↓z_set, ↓ps_n, ↓ps_l, ↓ps_s, ↓z_unp, ↓us_n, ↓z_app, ↓as_n, ↓as_l, ↓zz_for, ↓ws_T, ↓ws_F, ↓ws_S, ↓ws_Z, ↓z_for1, ↓z_for2, ↓y_ret, ↓re_n, ↓re_f, ↓re_v, ↓re_c, ↓ob_0, ↓ob_s, ↓x_expr, ↓x_ret0, ↓z_if, ↓if_b, ↓x_brk, ↓x_cnt, ↓x_pass, ↓x_nil, ↓x_aug, ↓aug_0, ↓aug_s, ↓toI_k, ↓zs_nx, ↓zs_rt, ↓zs_bk, ↓zs_ct, ↓zf_nil, ↓zf_cons, ↓zk_nx, ↓zk_ct, ↓zk_bk, ↓zk_rt, ↓z_whl, ↓zw_nx, ↓zw_ct, ↓zw_bk, ↓zw_rt, ↓getK_0, ↓getK_s, ↓setK_0, ↓setK_s, ↓setsK_0, ↓setsK_s, ↓ownK_0, ↓ownK_s, ↓llow_0, ↓llow_n, ↓llow_s, ↓un_var, ↓un_con, ↓un_bin, ↓un_cmp, ↓un_idx, ↓un_slc, ↓un_ite, ↓un_call, ↓un_blt, ↓un_tup, ↓un_lst, ↓un_nil, ↓un_cons, ↓rt_n, ↓rt_f, ↓rt_t, ↓rt_nx, ↓ok_bi, ↓reduceIte, List.map_cons, List.map_nil, List.cons_append, List.nil_append, List.replicate, ↓o_pq, ↓o_p10, ↓o_p20, ↓o_p30, ↓o_p38, ↓o_p39, ↓o_p40, ↓o_p59, ↓o_p60, ↓o_p64, sl, List.length_cons, List.length_nil, decide_true, decide_false, Bool.false_eq_true, Bool.not_true, Bool.not_false, decide_eq_true_eq, Int.reduceEq, Int.reduceNe, Int.reduceLT, Int.reduceLE, Int.reduceNeg, Int.reduceAdd, Int.reduceSub, Int.reduceMul, Nat.reduceAdd, Nat.reduceLeDiff, Nat.reduceSub, Nat.reduceMul, Int.reduceToNat, Int.cast_ofNat_Int, ↓at_k]
      rw [z_cons]
      by_cases c3 : (ax + far * (bx - ax), ay + far * (by_ - ay)) ∈ ps
      · simp (maxSteps := 10000000) (disch := omega) only [↓r_var, ↓r_cI, ↓r_cB, ↓r_cN, ↓r_cS, ↓r_bin, ↓r_neg, ↓r_not, ↓r_cmp, ↓z_chn, ↓ch_b, ↓z_and, ↓an_b, ↓z_or, ↓or_b, ↓z_ite, ↓it_b, ↓r_tup, ↓r_lst, ↓r_idx, ↓r_slc, ↓r_call, ↓r_blt, ↓r_isi, ↓y_comp, ↓o_add, ↓o_sub, ↓o_neg, ↓o_mul, ↓o_modP, ↓o_fdivP, ↓o_lt, ↓o_le, ↓o_gt, ↓o_ge, ↓o_eq, ↓o_ne, ↓o_eqB, ↓o_neB, ↓o_isB, ↓o_isNotB, ↓o_isN, ↓o_isNotN, ↓o_ix0, ↓o_ix1, ↓o_ix2, ↓o_lx0, ↓o_lx1, ↓o_lx2, ↓o_lx3, ↓o_lenT, ↓o_lenL, ↓o_lenF, ↓o_listL, ↓o_listT, ↓o_listF, ↓o_tupL, ↓o_abs, ↓o_intI, ↓o_intB, ↓o_isiII, ↓o_isiBB, ↓o_isiTT, ↓o_isiLL, ↓o_ltP, ↓o_leP, ↓o_mnP2, ↓o_mxP2, ↓o_eqS, ↓o_k8, ↓o_k7, ↓o_eqP, ↓o_neP, ↓o_in2, ↓o_in3, ↓bu_f, ↓bu_t, ↓o_f1, ↓o_f2, ↓o_f3, ↓o_t1, ↓o_t2, ↓o_srtI, ↓o_srtP, ↓o_srtS, ↓o_srtT, ↓o_mn2, ↓o_mx2, ↓o_inP, ↓o_niP, ↓o_e00, ↓o_n00, ↓o_eq0, ↓o_ne0, ↓o_eqL, ↓o_neL, ↓r_nil, ↓r_cons, ↓r_tru, ↓i_val_, ↓i_T, ↓i_L, ↓i_F, ↓i_rng1_, ↓i_rng2_, ↓u_2, ↓u_3, ↓u_4, ↓u_l2, ↓u_l3, ↓u_l4, ↓u_n2, ↓u_n3, ↓u_n4, ↓u_nl2, ↓u_nl3, ↓u_nl4, ↓b_nm, ↓b_tp, ↓bw_nm, ↓bw_tp, ↓wip_0, ↓wip_s, ↓clk_0, ↓clk_s, ↓c_cons, ↓c_end, ↓z_set, ↓ps_n, ↓ps_l, ↓ps_s, ↓z_unp, ↓us_n, ↓z_app, ↓as_n, ↓as_l, ↓zz_for, ↓ws_T, ↓ws_F, ↓ws_S, ↓ws_Z, ↓z_for1, ↓z_for2, ↓y_ret, ↓re_n, ↓re_f, ↓re_v, ↓re_c, ↓ob_0, ↓ob_s, ↓x_expr, ↓x_ret0, ↓z_if, ↓if_b, ↓x_brk, ↓x_cnt, ↓x_pass, ↓x_nil, ↓x_aug, ↓aug_0, ↓aug_s, ↓toI_k, ↓zs_nx, ↓zs_rt, ↓zs_bk, ↓zs_ct, ↓zf_nil, ↓zf_cons, ↓zk_nx, ↓zk_ct, ↓zk_bk, ↓zk_rt, ↓z_whl, ↓zw_nx, ↓zw_ct, ↓zw_bk, ↓zw_rt, ↓getK_0, ↓getK_s, ↓setK_0, ↓setK_s, ↓setsK_0, ↓setsK_s, ↓ownK_0, ↓ownK_s, ↓llow_0, ↓llow_n, ↓llow_s, ↓un_var, ↓un_con, ↓un_bin, ↓un_cmp, ↓un_idx, ↓un_slc, ↓un_ite, ↓un_call, ↓un_blt, ↓un_tup, ↓un_lst, ↓un_nil, ↓un_cons, ↓rt_n, ↓rt_f, ↓rt_t, ↓rt_nx, ↓ok_bi, ↓reduceIte, List.map_cons, List.map_nil, List.cons_append, List.nil_append, List.replicate, ↓o_pq, ↓o_p10, ↓o_p20, ↓o_p30, ↓o_p38, ↓o_p39, ↓o_p40, ↓o_p59, ↓o_p60, ↓o_p64, sl, List.length_cons, List.length_nil, decide_true, decide_false, Bool.false_eq_true, Bool.not_true, Bool.not_false, decide_eq_true_eq, Int.reduceEq, Int.reduceNe, Int.reduceLT, Int.reduceLE, Int.reduceNeg, Int.reduceAdd, Int.reduceSub, Int.reduceMul, Nat.reduceAdd, Nat.reduceLeDiff, Nat.reduceSub, Nat.reduceMul, Int.reduceToNat, Int.cast_ofNat_Int, ↓at_k, c3]
        exact plain
      · simp (maxSteps := 10000000) (disch := omega) only [↓r_var, ↓r_cI, ↓r_cB, ↓r_cN, ↓r_cS, ↓r_bin, ↓r_neg, ↓r_not, ↓r_cmp, ↓z_chn, ↓ch_b, ↓z_and, ↓an_b, ↓z_or, ↓or_b, ↓z_ite, ↓it_b, ↓r_tup, ↓r_lst, ↓r_idx, ↓r_slc, ↓r_call, ↓r_blt, ↓r_isi, ↓y_comp, ↓o_add, ↓o_sub, ↓o_neg, ↓o_mul, ↓o_modP, ↓o_fdivP, ↓o_lt, ↓o_le, ↓o_gt, ↓o_ge, ↓o_eq, ↓o_ne, ↓o_eqB, ↓o_neB, ↓o_isB, ↓o_isNotB, ↓o_isN, ↓o_isNotN, ↓o_ix0, ↓o_ix1, ↓o_ix2, ↓o_lx0, ↓o_lx1, ↓o_lx2, ↓o_lx3, ↓o_lenT, ↓o_lenL, ↓o_lenF, ↓o_listL, ↓o_listT, ↓o_listF, ↓o_tupL, ↓o_abs, ↓o_intI, ↓o_intB, ↓o_isiII, ↓o_isiBB, ↓o_isiTT, ↓o_isiLL, ↓o_ltP, ↓o_leP, ↓o_mnP2, ↓o_mxP2, ↓o_eqS, ↓o_k8, ↓o_k7, ↓o_eqP, ↓o_neP, ↓o_in2, ↓o_in3, ↓bu_f, ↓bu_t, ↓o_f1, ↓o_f2, ↓o_f3, ↓o_t1, ↓o_t2, ↓o_srtI, ↓o_srtP, ↓o_srtS, ↓o_srtT, ↓o_mn2, ↓o_mx2, ↓o_inP, ↓o_niP, ↓o_e00, ↓o_n00, ↓o_eq0, ↓o_ne0, ↓o_eqL, ↓o_neL, ↓r_nil, ↓r_cons, ↓r_tru, ↓i_val_, ↓i_T, ↓i_L, ↓i_F, ↓i_rng1_, ↓i_rng2_, ↓u_2, ↓u_3, ↓u_4, ↓u_l2, ↓u_l3, ↓u_l4, ↓u_n2, ↓u_n3, ↓u_n4, ↓u_nl2, ↓u_nl3, ↓u_nl4, ↓b_nm, ↓b_tp, ↓bw_nm, ↓bw_tp, ↓wip_0, ↓wip_s, ↓clk_0, ↓clk_s, ↓c_cons, ↓c_end, ↓z_set, ↓ps_n, ↓ps_l, ↓ps_s, ↓z_unp, ↓us_n, ↓z_app, ↓as_n, ↓as_l, ↓zz_for, ↓ws_T, ↓ws_F, ↓ws_S, ↓ws_Z, ↓z_for1, ↓z_for2, ↓y_ret, ↓re_n, ↓re_f, ↓re_v, ↓re_c, ↓ob_0, ↓ob_s, ↓x_expr, ↓x_ret0, ↓z_if, ↓if_b, ↓x_brk, ↓x_cnt, ↓x_pass, ↓x_nil, ↓x_aug, ↓aug_0, ↓aug_s, ↓toI_k, ↓zs_nx, ↓zs_rt, ↓zs_bk, ↓zs_ct, ↓zf_nil, ↓zf_cons, ↓zk_nx, ↓zk_ct, ↓zk_bk, ↓zk_rt, ↓z_whl, ↓zw_nx, ↓zw_ct, ↓zw_bk, ↓zw_rt, ↓getK_0, ↓getK_s, ↓setK_0, ↓setK_s, ↓setsK_0, ↓setsK_s, ↓ownK_0, ↓ownK_s, ↓llow_0, ↓llow_n, ↓llow_s, ↓un_var, ↓un_con, ↓un_bin, ↓un_cmp, ↓un_idx, ↓un_slc, ↓un_ite, ↓un_call, ↓un_blt, ↓un_tup, ↓un_lst, ↓un_nil, ↓un_cons, ↓rt_n, ↓rt_f, ↓rt_t, ↓rt_nx, ↓ok_bi, ↓reduceIte, List.map_cons, List.map_nil, List.cons_append, List.nil_append, List.replicate, ↓o_pq, ↓o_p10, ↓o_p20, ↓o_p30, ↓o_p38, ↓o_p39, ↓o_p40, ↓o_p59, ↓o_p60, ↓o_p64, sl, List.length_cons, List.length_nil, decide_true, decide_false, Bool.false_eq_true, Bool.not_true, Bool.not_false, decide_eq_true_eq, Int.reduceEq, Int.reduceNe, Int.reduceLT, Int.reduceLE, Int.reduceNeg, Int.reduceAdd, Int.reduceSub, Int.reduceMul, Nat.reduceAdd, Nat.reduceLeDiff, Nat.reduceSub, Nat.reduceMul, Int.reduceToNat, Int.cast_ofNat_Int, ↓at_k, c3]
        rw [z_cons]
        simp (maxSteps := 10000000) (disch := omega) only [↓r_var, ↓r_cI, ↓r_cB, ↓r_cN, ↓r_cS, ↓r_bin, ↓r_neg, ↓r_not, ↓r_cmp, ↓z_chn, ↓ch_b, ↓z_and, ↓an_b, ↓z_or, ↓or_b, ↓z_ite, ↓it_b, ↓r_tup, ↓r_lst, ↓r_idx, ↓r_slc, ↓r_call, ↓r_blt, ↓r_isi, ↓y_comp, ↓o_add, ↓o_sub, ↓o_neg, ↓o_mul, ↓o_modP, ↓o_fdivP, ↓o_lt, ↓o_le, ↓o_gt, ↓o_ge, ↓o_eq, ↓o_ne, ↓o_eqB, ↓o_neB, ↓o_isB, ↓o_isNotB, ↓o_isN, ↓o_isNotN, ↓o_ix0, ↓o_ix1, ↓o_ix2, ↓o_lx0, ↓o_lx1, ↓o_lx2, ↓o_lx3, ↓o_lenT, ↓o_lenL, ↓o_lenF, ↓o_listL, ↓o_listT, ↓o_listF, ↓o_tupL, ↓o_abs, ↓o_intI, ↓o_intB, ↓o_isiII, ↓o_isiBB, ↓o_isiTT, ↓o_isiLL, ↓o_ltP, ↓o_leP, ↓o_mnP2, ↓o_mxP2, ↓o_eqS, ↓o_k8, ↓o_k7, ↓o_eqP, ↓o_neP, ↓o_in2, ↓o_in3, ↓bu_f, ↓bu_t, ↓o_f1, ↓o_f2, ↓o_f3, ↓o_t1, ↓o_t2, ↓o_srtI, ↓o_srtP, ↓o_srtS, ↓o_srtT, ↓o_mn2, ↓o_mx2, ↓o_inP, ↓o_niP, ↓o_e00, ↓o_n00, ↓o_eq0, ↓o_ne0, ↓o_eqL, ↓o_neL, ↓r_nil, ↓r_cons, ↓r_tru, ↓i_val_, ↓i_T, ↓i_L, ↓i_F, ↓i_rng1_, ↓i_rng2_, ↓u_2, ↓u_3, ↓u_4, ↓u_l2, ↓u_l3, ↓u_l4, ↓u_n2, ↓u_n3, ↓u_n4, ↓u_nl2, ↓u_nl3, ↓u_nl4, ↓b_nm, ↓b_tp, ↓bw_nm, ↓bw_tp, ↓wip_0, ↓wip_s, ↓clk_0, ↓clk_s, ↓c_cons, ↓c_end, ↓z_set, ↓ps_n, ↓ps_l, ↓ps_s, ↓z_unp, ↓us_n, ↓z_app, ↓as_n, ↓as_l, ↓zz_for, ↓ws_T, ↓ws_F, ↓ws_S, ↓ws_Z, ↓z_for1, ↓z_for2, ↓y_ret, ↓re_n, ↓re_f, ↓re_v, ↓re_c, ↓ob_0, ↓ob_s, ↓x_expr, ↓x_ret0, ↓z_if, ↓if_b, ↓x_brk, ↓x_cnt, ↓x_pass, ↓x_nil, ↓x_aug, ↓aug_0, ↓aug_s, ↓toI_k, ↓zs_nx, ↓zs_rt, ↓zs_bk, ↓zs_ct, ↓zf_nil, ↓zf_cons, ↓zk_nx, ↓zk_ct, ↓zk_bk, ↓zk_rt, ↓z_whl, ↓zw_nx, ↓zw_ct, ↓zw_bk, ↓zw_rt, ↓getK_0, ↓getK_s, ↓setK_0, ↓setK_s, ↓setsK_0, ↓setsK_s, ↓ownK_0, ↓ownK_s, ↓llow_0, ↓llow_n, ↓llow_s, ↓un_var, ↓un_con, ↓un_bin, ↓un_cmp, ↓un_idx, ↓un_slc, ↓un_ite, ↓un_call, ↓un_blt, ↓un_tup, ↓un_lst, ↓un_nil, ↓un_cons, ↓rt_n, ↓rt_f, ↓rt_t, ↓rt_nx, ↓ok_bi, ↓reduceIte, List.map_cons, List.map_nil, List.cons_append, List.nil_append, List.replicate, ↓o_pq, ↓o_p10, ↓o_p20, ↓o_p30, ↓o_p38, ↓o_p39, ↓o_p40, ↓o_p59, ↓o_p60, ↓o_p64, sl, List.length_cons, List.length_nil, decide_true, decide_false, Bool.false_eq_true, Bool.not_true, Bool.not_false, decide_eq_true_eq, Int.reduceEq, Int.reduceNe, Int.reduceLT, Int.reduceLE, Int.reduceNeg, Int.reduceAdd, Int.reduceSub, Int.reduceMul, Nat.reduceAdd, Nat.reduceLeDiff, Nat.reduceSub, Nat.reduceMul, Int.reduceToNat, Int.cast_ofNat_Int, ↓at_k, if_pos hsz]
        have t := law_tail (ns := ns) (ps := ps ++ [(ax + far * (bx - ax), ay + far * (by_ - ay))]) (w := false) (o5 := some (false, U.int far)) (o6 := some (false, U.tup [U.int (ax + far * (bx - ax)), U.int (ay + far * (by_ - ay))])) (o8 := some (false, U.tup [U.int ax, U.int ay])) (o9 := some (false, U.tup [U.int bx, U.int by_]))
          (List.nodup_append.mpr ⟨hd, by simp, fun a ha b hb => by rw [List.mem_singleton.mp hb]; exact fun z => c3 (z ▸ ha)⟩)
          (fun p hp => by
            rcases List.mem_append.mp hp with hp | hp
            · exact up p hp
            · rw [List.mem_singleton.mp hp]; exact ⟨spx, spy⟩)
          (by rw [List.length_append]; show ps.length + 1 ≤ 5; omega)
        rw [List.map_append] at t
        exact t
    · simp (maxSteps := 10000000) (disch := omega) only [↓r_var, ↓r_cI, ↓r_cB, ↓r_cN, ↓r_cS, ↓r_bin, ↓r_neg, ↓r_not, ↓r_cmp, ↓z_chn, ↓ch_b, ↓z_and, ↓an_b, ↓z_or, ↓or_b, ↓z_ite, ↓it_b, ↓r_tup, ↓r_lst, ↓r_idx, ↓r_slc, ↓r_call, ↓r_blt, ↓r_isi, ↓y_comp, ↓o_add, ↓o_sub, ↓o_neg, ↓o_mul, ↓o_modP, ↓o_fdivP, ↓o_lt, ↓o_le, ↓o_gt, ↓o_ge, ↓o_eq, ↓o_ne, ↓o_eqB, ↓o_neB, ↓o_isB, ↓o_isNotB, ↓o_isN, ↓o_isNotN, ↓o_ix0, ↓o_ix1, ↓o_ix2, ↓o_lx0, ↓o_lx1, ↓o_lx2, ↓o_lx3, ↓o_lenT, ↓o_lenL, ↓o_lenF, ↓o_listL, ↓o_listT, ↓o_listF, ↓o_tupL, ↓o_abs, ↓o_intI, ↓o_intB, ↓o_isiII, ↓o_isiBB, ↓o_isiTT, ↓o_isiLL, ↓o_ltP, ↓o_leP, ↓o_mnP2, ↓o_mxP2, ↓o_eqS, ↓o_k8, ↓o_k7, ↓o_eqP, ↓o_neP, ↓o_in2, ↓o_in3, ↓bu_f, ↓bu_t, ↓o_f1, ↓o_f2, ↓o_f3, ↓o_t1, ↓o_t2, ↓o_srtI, ↓o_srtP, ↓o_srtS, ↓o_srtT, ↓o_mn2, ↓o_mx2, ↓o_inP, ↓o_niP, ↓o_e00, ↓o_n00, ↓o_eq0, ↓o_ne0, ↓o_eqL, ↓o_neL, ↓r_nil, ↓r_cons, ↓r_tru, ↓i_val_, ↓i_T, ↓i_L, ↓i_F, ↓i_rng1_, ↓i_rng2_, ↓u_2, ↓u_3, ↓u_4, ↓u_l2, ↓u_l3, ↓u_l4, ↓u_n2, ↓u_n3, ↓u_n4, ↓u_nl2, ↓u_nl3, ↓u_nl4, ↓b_nm, ↓b_tp, ↓bw_nm, ↓bw_tp, ↓wip_0, ↓wip_s, ↓clk_0, ↓clk_s, ↓c_cons, ↓c_end, ↓z_set, ↓ps_n, ↓ps_l, ↓ps_s, ↓z_unp, ↓us_n, ↓z_app, ↓as_n, ↓as_l, ↓zz_for, ↓ws_T, ↓ws_F, ↓ws_S, ↓ws_Z, ↓z_for1, ↓z_for2, ↓y_ret, ↓re_n, ↓re_f, ↓re_v, ↓re_c, ↓ob_0, ↓ob_s, ↓x_expr, ↓x_ret0, ↓z_if, ↓if_b, ↓x_brk, ↓x_cnt, ↓x_pass, ↓x_nil, ↓x_aug, ↓aug_0, ↓aug_s, ↓toI_k, ↓zs_nx, ↓zs_rt, ↓zs_bk, ↓zs_ct, ↓zf_nil, ↓zf_cons, ↓zk_nx, ↓zk_ct, ↓zk_bk, ↓zk_rt, ↓z_whl, ↓zw_nx, ↓zw_ct, ↓zw_bk, ↓zw_rt, ↓getK_0, ↓getK_s, ↓setK_0, ↓setK_s, ↓setsK_0, ↓setsK_s, ↓ownK_0, ↓ownK_s, ↓llow_0, ↓llow_n, ↓llow_s, ↓un_var, ↓un_con, ↓un_bin, ↓un_cmp, ↓un_idx, ↓un_slc, ↓un_ite, ↓un_call, ↓un_blt, ↓un_tup, ↓un_lst, ↓un_nil, ↓un_cons, ↓rt_n, ↓rt_f, ↓rt_t, ↓rt_nx, ↓ok_bi, ↓reduceIte, List.map_cons, List.map_nil, List.cons_append, List.nil_append, List.replicate, ↓o_pq, ↓o_p10, ↓o_p20, ↓o_p30, ↓o_p38, ↓o_p39, ↓o_p40, ↓o_p59, ↓o_p60, ↓o_p64, sl, List.length_cons, List.length_nil, decide_true, decide_false, Bool.false_eq_true, Bool.not_true, Bool.not_false, decide_eq_true_eq, Int.reduceEq, Int.reduceNe, Int.reduceLT, Int.reduceLE, Int.reduceNeg, Int.reduceAdd, Int.reduceSub, Int.reduceMul, Nat.reduceAdd, Nat.reduceLeDiff, Nat.reduceSub, Nat.reduceMul, Int.reduceToNat, Int.cast_ofNat_Int, ↓at_k, List.length_map, c1, c2]
      exact plain
  · simp (maxSteps := 10000000) (disch := omega) only [↓r_var, ↓r_cI, ↓r_cB, ↓r_cN, ↓r_cS, ↓r_bin, ↓r_neg, ↓r_not, ↓r_cmp, ↓z_chn, ↓ch_b, ↓z_and, ↓an_b, ↓z_or, ↓or_b, ↓z_ite, ↓it_b, ↓r_tup, ↓r_lst, ↓r_idx, ↓r_slc, ↓r_call, ↓r_blt, ↓r_isi, ↓y_comp, ↓o_add, ↓o_sub, ↓o_neg, ↓o_mul, ↓o_modP, ↓o_fdivP, ↓o_lt, ↓o_le, ↓o_gt, ↓o_ge, ↓o_eq, ↓o_ne, ↓o_eqB, ↓o_neB, ↓o_isB, ↓o_isNotB, ↓o_isN, ↓o_isNotN, ↓o_ix0, ↓o_ix1, ↓o_ix2, ↓o_lx0, ↓o_lx1, ↓o_lx2, ↓o_lx3, ↓o_lenT, ↓o_lenL, ↓o_lenF, ↓o_listL, ↓o_listT, ↓o_listF, ↓o_tupL, ↓o_abs, ↓o_intI, ↓o_intB, ↓o_isiII, ↓o_isiBB, ↓o_isiTT, ↓o_isiLL, ↓o_ltP, ↓o_leP, ↓o_mnP2, ↓o_mxP2, ↓o_eqS, ↓o_k8, ↓o_k7, ↓o_eqP, ↓o_neP, ↓o_in2, ↓o_in3, ↓bu_f, ↓bu_t, ↓o_f1, ↓o_f2, ↓o_f3, ↓o_t1, ↓o_t2, ↓o_srtI, ↓o_srtP, ↓o_srtS, ↓o_srtT, ↓o_mn2, ↓o_mx2, ↓o_inP, ↓o_niP, ↓o_e00, ↓o_n00, ↓o_eq0, ↓o_ne0, ↓o_eqL, ↓o_neL, ↓r_nil, ↓r_cons, ↓r_tru, ↓i_val_, ↓i_T, ↓i_L, ↓i_F, ↓i_rng1_, ↓i_rng2_, ↓u_2, ↓u_3, ↓u_4, ↓u_l2, ↓u_l3, ↓u_l4, ↓u_n2, ↓u_n3, ↓u_n4, ↓u_nl2, ↓u_nl3, ↓u_nl4, ↓b_nm, ↓b_tp, ↓bw_nm, ↓bw_tp, ↓wip_0, ↓wip_s, ↓clk_0, ↓clk_s, ↓c_cons, ↓c_end, ↓z_set, ↓ps_n, ↓ps_l, ↓ps_s, ↓z_unp, ↓us_n, ↓z_app, ↓as_n, ↓as_l, ↓zz_for, ↓ws_T, ↓ws_F, ↓ws_S, ↓ws_Z, ↓z_for1, ↓z_for2, ↓y_ret, ↓re_n, ↓re_f, ↓re_v, ↓re_c, ↓ob_0, ↓ob_s, ↓x_expr, ↓x_ret0, ↓z_if, ↓if_b, ↓x_brk, ↓x_cnt, ↓x_pass, ↓x_nil, ↓x_aug, ↓aug_0, ↓aug_s, ↓toI_k, ↓zs_nx, ↓zs_rt, ↓zs_bk, ↓zs_ct, ↓zf_nil, ↓zf_cons, ↓zk_nx, ↓zk_ct, ↓zk_bk, ↓zk_rt, ↓z_whl, ↓zw_nx, ↓zw_ct, ↓zw_bk, ↓zw_rt, ↓getK_0, ↓getK_s, ↓setK_0, ↓setK_s, ↓setsK_0, ↓setsK_s, ↓ownK_0, ↓ownK_s, ↓llow_0, ↓llow_n, ↓llow_s, ↓un_var, ↓un_con, ↓un_bin, ↓un_cmp, ↓un_idx, ↓un_slc, ↓un_ite, ↓un_call, ↓un_blt, ↓un_tup, ↓un_lst, ↓un_nil, ↓un_cons, ↓rt_n, ↓rt_f, ↓rt_t, ↓rt_nx, ↓ok_bi, ↓reduceIte, List.map_cons, List.map_nil, List.cons_append, List.nil_append, List.replicate, ↓o_pq, ↓o_p10, ↓o_p20, ↓o_p30, ↓o_p38, ↓o_p39, ↓o_p40, ↓o_p59, ↓o_p60, ↓o_p64, sl, List.length_cons, List.length_nil, decide_true, decide_false, Bool.false_eq_true, Bool.not_true, Bool.not_false, decide_eq_true_eq, Int.reduceEq, Int.reduceNe, Int.reduceLT, Int.reduceLE, Int.reduceNeg, Int.reduceAdd, Int.reduceSub, Int.reduceMul, Nat.reduceAdd, Nat.reduceLeDiff, Nat.reduceSub, Nat.reduceMul, Int.reduceToNat, Int.cast_ofNat_Int, ↓at_k, List.length_map, c1]
    exact plain
theorem law_true : ∀ ns : List Int, ns.length ≤ 63 → (∀ z ∈ ns, Builtin.Int.intBits z ≤ 1048576) → ∃ S', callT (tabT tab) 20 10 [.ref 0] [.frz (ns.map D.int)] = .ok (.bl true) S' := fun ns h1 h2 => law_of (fr := F) (law_run ns h2)

end VL
open PySem PySem.W PyProof.Rows
set_option maxRecDepth 100000 in
set_option maxHeartbeats 0 in
theorem PySem.Challenge.cw_nearland_k53_sides_that_meet_holds : PySem.Challenge.rw_nearland_k53_sides_that_meet.Holds := by
  w_on; o_law; k_head; (case hw => w_witness2)
  k_fill
  refine NL.walk_nl (l := PySem.Challenge.rw_nearland_k53_sides_that_meet) (tab := VL.tab) (n := 20) (i := 10) (e := VL.e10) rfl rfl ⟨rfl, by decide, by decide⟩ (fun w h Y => PySem.W.kIn_of Y) rfl rfl rfl VL.okAll ?F VL.law_true
  case F =>
    intro w mg h KX G
    refine' VL.stands KX G ?a0 ?l0 ?c0 ?k0 ?a1 ?l1 ?c1 ?k1 ?a2 ?l2 ?c2 ?k2 ?a3 ?l3 ?c3 ?k3 ?a4 ?l4 ?c4 ?k4 ?a5 ?l5 ?c5 ?k5 ?a6 ?l6 ?c6 ?k6 ?a7 ?l7 ?c7 ?k7 ?a8 ?l8 ?c8 ?k8 ?a9 ?l9 ?c9 ?k9 ?a10 ?l10 ?c10 ?k10 ?z0 ?z1 ?z2 ?z3 ?z4 ?z5 ?z6 ?z7 ?z8 ?z9 ?z10 ?z11 ?z12
    (case a0 => k_is)
    (case l0 => k_is)
    (case c0 => k_is)
    (case k0 => k_is)
    (case a1 => k_is)
    (case l1 => k_is)
    (case c1 => k_is)
    (case k1 => k_is)
    (case a2 => k_is)
    (case l2 => k_is)
    (case c2 => k_is)
    (case k2 => k_is)
    (case a3 => k_is)
    (case l3 => k_is)
    (case c3 => k_is)
    (case k3 => k_is)
    (case a4 => k_is)
    (case l4 => k_is)
    (case c4 => k_is)
    (case k4 => k_is)
    (case a5 => k_is)
    (case l5 => k_is)
    (case c5 => k_is)
    (case k5 => k_is)
    (case a6 => k_is)
    (case l6 => k_is)
    (case c6 => k_is)
    (case k6 => k_is)
    (case a7 => k_is)
    (case l7 => k_is)
    (case c7 => k_is)
    (case k7 => k_is)
    (case a8 => k_is)
    (case l8 => k_is)
    (case c8 => k_is)
    (case k8 => k_is)
    (case a9 => k_is)
    (case l9 => k_is)
    (case c9 => k_is)
    (case k9 => k_is)
    (case a10 => k_is)
    (case l10 => k_is)
    (case c10 => k_is)
    (case k10 => k_is)
    (case z0 => k_is)
    (case z1 => k_is)
    (case z2 => k_is)
    (case z3 => k_is)
    (case z4 => k_is)
    (case z5 => k_is)
    (case z6 => k_is)
    (case z7 => k_is)
    (case z8 => k_is)
    (case z9 => k_is)
    (case z10 => k_is)
    (case z11 => k_is)
    (case z12 => k_is)
#print axioms PySem.Challenge.cw_nearland_k53_sides_that_meet_holds
